import PyProof.Rows.All
import Wide.All
import OpenK.AllK
import Wide.FinOn
import HandS.ForMost
import HandS.ForExc
import HandS.More
import HandS.Deep
import HandS.TupAny
import HandS.TupMul
import HandS.TupLe
import HandS.IsInst
import HandS.Slots
import HandS.SlotsOwn
import HandS.Lambda
import KE.DataEq
import HandS.Wide
import HandS.Conv
import HandS.Walk
import HandS.Zip
import KE.GoesEnum
import HandS.Defaults
import HandS.MakeKwOnly
import HandS.Style
import KE.GoesMore
import PyProof.Draws
import PyProof.EnumMake
import HandS.Sort
import HandS.Strs
import HandS.Star
import HandS.Comp
import KE.KRevSl
import HandS.OwnEq
import PyProof.NeKinds
import PyProof.InstEq
import HandS.ExcOwn
import HandS.TryOnly
import HandS.TryMany
import HandS.HeadNt
import PyProof.ExcBaseAll.ValueError
import HandS.HeadHook4
import KE.KExcSuper
import HandS.ExcInit
import HandS.ExcField
import PyProof.Rows.RuleN_abs
import KE.KStateDown
import HandS.Head0
import HandS.Head1
import HandS.Head2
import HandS.HeadEnd
import HandS.HeadHook1
import HandS.HeadHook2
import HandS.HeadHook3
import HandS.HeadWalk
import HandS.EndTab
import PySem.Challenge.RW_seeabove_k35_whole_over
/-! text: Sim1 -/
set_option Elab.async false
set_option linter.all false
set_option maxRecDepth 100000
set_option maxHeartbeats 1000000
namespace Sm
open PySem PySem.Spec PyProof.Rows L2

abbrev LIM : Nat := 100000
theorem lim_le : LIM ≤ sizeLine := by rw [sizeLine_eq]; decide
theorem lim_of {n : Nat} (h : n ≤ LIM) : n ≤ sizeLine := Nat.le_trans h lim_le
theorem lim_lt {n : Nat} (h : n < LIM) : n < sizeLine := Nat.lt_of_lt_of_le h lim_le

/-- plain data of the program, without a heap -/
inductive D where
  | non | bl (b : Bool) | int (i : Int) | str (x : Str)
  | tup (ds : List D) | lst (ds : List D)
  | scr (ds : List D)
  | ins (k : Nat) (fs : List D)
  | dct (ks : List (Key × D))
  | ref (n : Nat)
  | cls (k : Nat)
  | ty (n : String)
  | pt (ds : List D)
/-- what is shared and may change -/
inductive Ob where
  | lst (ds : List D)
  | ins (k : Nat) (fs : List D)
abbrev Sto := List Ob
inductive Res (α : Type) where
  | ok (a : α) (S : Sto)
  | err (k : Nat) (fs : List D) (S : Sto)
  | stuck
def M (α : Type) : Type := Sto → Res α
def rt {α : Type} (a : α) : M α := fun S => .ok a S
def bd {α β : Type} (m : M α) (f : α → M β) : M β := fun S => match m S with
  | .ok a S' => f a S'
  | .err k fs S' => .err k fs S'
  | .stuck => .stuck
def stk {α : Type} : M α := fun _ => .stuck
def thr {α : Type} (k : Nat) (fs : List D) : M α := fun S => .err k fs S
def opt {α : Type} (o : Option α) : M α := fun S => match o with
  | some a => .ok a S
  | none => .stuck
/-- an error inside is no way of ours -/
def noX {α : Type} (m : M α) : M α := fun S => match m S with
  | .ok a S' => .ok a S'
  | _ => .stuck

/-- what the text gives: the fragment, the classes by number -/
structure Cf where
  K : PySem.W.Frag
  cls : Nat → Addr
  tb : List (Addr × Str)
/-- what is known to stand: the frozen objects, the shared ones (each with its own dict's address) -/
structure Wd where
  fz : Hp
  sh : List (Addr × Addr)
  tb : List (Addr × Str)

mutual
inductive Rep (c : Cf) (Ψ : Wd) : V → D → Prop
  | non : Rep c Ψ .non .non
  | bl (b : Bool) : Rep c Ψ (.bl b) (.bl b)
  | int (i : Int) : Rep c Ψ (.int i) (.int i)
  | str (x : Str) : Rep c Ψ (.str x) (.str x)
  | tup {a : Addr} {vs : List V} {ds : List D} (h : SqT c.K Ψ.fz a vs) (l : vs.length ≤ LIM) (r : Reps c Ψ vs ds) : Rep c Ψ (.ref a) (.tup ds)
  | lst {a : Addr} {vs : List V} {ds : List D} (h : Ψ.fz a = some (.lst vs)) (l : vs.length ≤ LIM) (r : Reps c Ψ vs ds) : Rep c Ψ (.ref a) (.lst ds)
  | scr {a : Addr} {vs : List V} {ds : List D} (h : SqL c.K Ψ.fz a vs) (l : vs.length ≤ LIM) (r : Reps c Ψ vs ds) : Rep c Ψ (.ref a) (.scr ds)
  | ins {a dx : Addr} {k : Nat} {vs : List V} {fs : List D} (h : SlX.Slt Ψ.fz a (c.cls k) dx (vs.map some)) (r : Reps c Ψ vs fs) : Rep c Ψ (.ref a) (.ins k fs)
  | dct {a : Addr} {kvs : List (Key × V)} {ks : List (Key × D)} (h : Ψ.fz a = some (.dK kvs)) (e : kvs.map (·.1) = ks.map (·.1)) (r : Reps c Ψ (kvs.map (·.2)) (ks.map (·.2))) : Rep c Ψ (.ref a) (.dct ks)
  | obj {n : Nat} {p : Addr × Addr} (h : Ψ.sh[n]? = some p) : Rep c Ψ (.ref p.1) (.ref n)
  | cls (k : Nat) : Rep c Ψ (.ref (c.cls k)) (.cls k)
  | ty (n : String) : Rep c Ψ (.ty n) (.ty n)
  | pt {a : Addr} {o : Obj} {vs : List V} {ds : List D} (h : Ψ.fz a = some (.frz o (.tup vs))) (hd : o.dict = none) (l : vs.length ≤ LIM) (r : Reps c Ψ vs ds) : Rep c Ψ (.ref a) (.pt ds)
inductive Reps (c : Cf) (Ψ : Wd) : List V → List D → Prop
  | nil : Reps c Ψ [] []
  | cons {v : V} {vs : List V} {d : D} {ds : List D} (h : Rep c Ψ v d) (t : Reps c Ψ vs ds) : Reps c Ψ (v :: vs) (d :: ds)
end

/-- Ψ' knows all that Ψ knows -/
structure Le (Ψ Ψ' : Wd) : Prop where
  phi : ∀ a o, Ψ.fz a = some o → Ψ'.fz a = some o
  mu : ∀ (n : Nat) (p : Addr × Addr), Ψ.sh[n]? = some p → Ψ'.sh[n]? = some p
  tb : Ψ'.tb = Ψ.tb
theorem Le.refl (Ψ : Wd) : Le Ψ Ψ := ⟨fun _ _ h => h, fun _ _ h => h, rfl⟩
theorem Le.trans {A B C : Wd} (x : Le A B) (y : Le B C) : Le A C := ⟨fun a o h => y.phi a o (x.phi a o h), fun n p h => y.mu n p (x.mu n p h), y.tb.trans x.tb⟩
theorem Le.rd {Ψ Ψ' : Wd} (x : Le Ψ Ψ') {a : Addr} {u : HO} (h : Rd Ψ.fz a u) : Rd Ψ'.fz a u := h.elim (fun h => .inl (x.phi _ _ h)) fun ⟨o, h⟩ => .inr ⟨o, x.phi _ _ h⟩
theorem Le.sqT {K : PySem.W.Frag} {Ψ Ψ' : Wd} (x : Le Ψ Ψ') {a : Addr} {vs : List V} (h : SqT K Ψ.fz a vs) : SqT K Ψ'.fz a vs := h.elim (fun h => .inl (x.rd h)) .inr
theorem Le.sqL {K : PySem.W.Frag} {Ψ Ψ' : Wd} (x : Le Ψ Ψ') {a : Addr} {vs : List V} (h : SqL K Ψ.fz a vs) : SqL K Ψ'.fz a vs := h.elim (fun h => .inl (x.rd h)) .inr
theorem Le.slt {Ψ Ψ' : Wd} (x : Le Ψ Ψ') {a C dx : Addr} {vs : List (Option V)} (h : SlX.Slt Ψ.fz a C dx vs) : SlX.Slt Ψ'.fz a C dx vs :=
  h.elim (fun h => .inl ⟨x.phi _ _ h.1, h.2⟩) fun h => .inr ⟨x.phi _ _ h.1, x.phi _ _ h.2⟩
theorem Rep.mono {c : Cf} {Ψ Ψ' : Wd} (x : Le Ψ Ψ') {v : V} {d : D} (h : Rep c Ψ v d) : Rep c Ψ' v d := by
  refine Rep.rec (motive_1 := fun v d _ => Rep c Ψ' v d) (motive_2 := fun vs ds _ => Reps c Ψ' vs ds) ?_ ?_ ?_ ?_ ?_ ?_ ?_ ?_ ?_ ?_ ?_ ?_ ?_ ?_ ?_ h
  · exact .non
  · exact fun b => .bl b
  · exact fun b => .int b
  · exact fun b => .str b
  · exact fun h l _ r => .tup (x.sqT h) l r
  · exact fun h l _ r => .lst (x.phi _ _ h) l r
  · exact fun h l _ r => .scr (x.sqL h) l r
  · exact fun h _ r => .ins (x.slt h) r
  · exact fun h e _ r => .dct (x.phi _ _ h) e r
  · exact fun h => .obj (x.mu _ _ h)
  · exact fun k => .cls k
  · exact fun k => .ty k
  · exact fun h hd l _ r => .pt (x.phi _ _ h) hd l r
  · exact .nil
  · exact fun _ _ a b => .cons a b
theorem Reps.mono {c : Cf} {Ψ Ψ' : Wd} (x : Le Ψ Ψ') : ∀ {vs : List V} {ds : List D}, Reps c Ψ vs ds → Reps c Ψ' vs ds
  | _, _, .nil => .nil
  | _, _, .cons h t => .cons (h.mono x) (Reps.mono x t)
theorem Reps.length {c : Cf} {Ψ : Wd} : ∀ {vs : List V} {ds : List D}, Reps c Ψ vs ds → vs.length = ds.length
  | _, _, .nil => rfl
  | _, _, .cons _ t => by rw [List.length_cons, List.length_cons, Reps.length t]
theorem Reps.get {c : Cf} {Ψ : Wd} : ∀ {vs : List V} {ds : List D} {i : Nat} {d : D}, Reps c Ψ vs ds → ds[i]? = some d → ∃ v, vs[i]? = some v ∧ Rep c Ψ v d
  | _, _, _, _, .nil, e => by simp at e
  | _, _, 0, _, .cons h _, e => by simp at e; subst e; exact ⟨_, rfl, h⟩
  | _, _, i + 1, _, .cons _ t, e => by
    obtain ⟨v, h1, h2⟩ := Reps.get (i := i) t (by simpa using e)
    exact ⟨v, by simpa using h1, h2⟩
theorem Reps.getV {c : Cf} {Ψ : Wd} : ∀ {vs : List V} {ds : List D} {i : Nat} {v : V}, Reps c Ψ vs ds → vs[i]? = some v → ∃ d, ds[i]? = some d ∧ Rep c Ψ v d
  | _, _, _, _, .nil, e => by simp at e
  | _, _, 0, _, .cons h _, e => by simp at e; subst e; exact ⟨_, rfl, h⟩
  | _, _, i + 1, _, .cons _ t, e => by
    obtain ⟨v, h1, h2⟩ := Reps.getV (i := i) t (by simpa using e)
    exact ⟨v, by simpa using h1, h2⟩
theorem Reps.app {c : Cf} {Ψ : Wd} : ∀ {vs ws : List V} {ds es : List D}, Reps c Ψ vs ds → Reps c Ψ ws es → Reps c Ψ (vs ++ ws) (ds ++ es)
  | _, _, _, _, .nil, s => s
  | _, _, _, _, .cons h t, s => .cons h (Reps.app t s)
theorem Reps.take {c : Cf} {Ψ : Wd} : ∀ {vs : List V} {ds : List D} (n : Nat), Reps c Ψ vs ds → Reps c Ψ (vs.take n) (ds.take n)
  | _, _, 0, _ => .nil
  | _, _, _ + 1, .nil => .nil
  | _, _, n + 1, .cons h t => .cons h (Reps.take n t)
theorem Reps.drop {c : Cf} {Ψ : Wd} : ∀ {vs : List V} {ds : List D} (n : Nat), Reps c Ψ vs ds → Reps c Ψ (vs.drop n) (ds.drop n)
  | _, _, 0, h => h
  | _, _, _ + 1, .nil => .nil
  | _, _, n + 1, .cons _ t => Reps.drop n t
theorem Reps.set {c : Cf} {Ψ : Wd} {v : V} {d : D} (r : Rep c Ψ v d) : ∀ {vs : List V} {ds : List D} (i : Nat), Reps c Ψ vs ds → Reps c Ψ (vs.set i v) (ds.set i d)
  | _, _, _, .nil => .nil
  | _, _, 0, .cons _ t => .cons r t
  | _, _, i + 1, .cons h t => .cons h (Reps.set r i t)
theorem Reps.erase {c : Cf} {Ψ : Wd} : ∀ {vs : List V} {ds : List D} (i : Nat), Reps c Ψ vs ds → Reps c Ψ (vs.eraseIdx i) (ds.eraseIdx i)
  | _, _, _, .nil => .nil
  | _, _, 0, .cons _ t => t
  | _, _, i + 1, .cons h t => .cons h (Reps.erase i t)
theorem Reps.rev {c : Cf} {Ψ : Wd} : ∀ {vs : List V} {ds : List D}, Reps c Ψ vs ds → Reps c Ψ vs.reverse ds.reverse
  | _, _, .nil => .nil
  | _, _, .cons h t => by rw [List.reverse_cons, List.reverse_cons]; exact Reps.app (Reps.rev t) (.cons h .nil)
theorem Reps.flat {c : Cf} {Ψ : Wd} {vs : List V} {ds : List D} (r : Reps c Ψ vs ds) : ∀ k : Nat, Reps c Ψ (List.replicate k vs).flatten (List.replicate k ds).flatten
  | 0 => .nil
  | k + 1 => by
    rw [List.replicate_succ, List.replicate_succ, List.flatten_cons, List.flatten_cons]
    exact r.app (Reps.flat r k)

def Foot (Ψ : Wd) (b : Addr) : Prop := (∃ (n : Nat) (p : Addr × Addr), Ψ.sh[n]? = some p ∧ (b = p.1 ∨ b = p.2)) ∨ ∃ q, (b, q) ∈ Ψ.tb
/-- a table of code objects: they are known, all by one name -/
def TabOk (Ψ : Wd) (H : Hp) (p : Addr × Str) : Prop := ∃ ps : Array Value, H p.1 = some (.tbl ps) ∧ TriplesOk ps.toList ∧ ∀ (pos : Pos) (cv : Value), codeAmong pos ps.toList = some cv → ∃ a, cv = .ref a ∧ Ψ.fz a = some (LamX.CodeO a p.2)
/-- from (Ψ, H) to (Ψ', H'): only shared objects have changed, what is newly known is new -/
structure Ext (Ψ : Wd) (H : Hp) (Ψ' : Wd) (H' : Hp) : Prop where
  le : Le Ψ Ψ'
  dom : ∀ b, H' b = none → H b = none
  nphi : ∀ a o, Ψ'.fz a = some o → Ψ.fz a = some o ∨ H a = none
  nmu : ∀ b, Foot Ψ' b → Foot Ψ b ∨ H b = none
  keep : ∀ b o, H b = some o → ¬ Foot Ψ b → H' b = some o
def ObOk (c : Cf) (Ψ : Wd) (H : Hp) (p : Addr × Addr) : Ob → Prop
  | .lst ds => ∃ vs, H p.1 = some (.lst vs) ∧ p.2 = p.1 ∧ vs.length ≤ LIM ∧ Reps c Ψ vs ds
  | .ins k fs => ∃ vs, SlX.Slt H p.1 (c.cls k) p.2 (vs.map some) ∧ p.2 ≠ p.1 ∧ H p.2 ≠ none ∧ Reps c Ψ vs fs
structure StoOk (c : Cf) (Ψ : Wd) (H : Hp) (S : Sto) : Prop where
  phi : ∀ a o, Ψ.fz a = some o → H a = some o
  off : ∀ a, Foot Ψ a → Ψ.fz a = none
  nd : ∀ (i j : Nat) (p q : Addr × Addr), Ψ.sh[i]? = some p → Ψ.sh[j]? = some q → i ≠ j → p.1 ≠ q.1 ∧ p.1 ≠ q.2 ∧ p.2 ≠ q.1 ∧ p.2 ≠ q.2
  len : Ψ.sh.length = S.length
  tbc : Ψ.tb = c.tb
  tab : ∀ p ∈ Ψ.tb, TabOk Ψ H p
  tnd : ∀ p ∈ Ψ.tb, ∀ (n : Nat) (s : Addr × Addr), Ψ.sh[n]? = some s → s.1 ≠ p.1 ∧ s.2 ≠ p.1
  obj : ∀ (n : Nat) (o : Ob), S[n]? = some o → ∃ p : Addr × Addr, Ψ.sh[n]? = some p ∧ ObOk c Ψ H p o
theorem Slt.there {H : Hp} {a C dx : Addr} {vs : List (Option V)} (h : SlX.Slt H a C dx vs) : H a ≠ none := by
  rcases h with h | h <;> (rw [h.1]; exact fun z => nomatch z)
theorem StoOk.foot {c : Cf} {Ψ : Wd} {H : Hp} {S : Sto} (s : StoOk c Ψ H S) {b : Addr} (f : ∃ (n : Nat) (p : Addr × Addr), Ψ.sh[n]? = some p ∧ (b = p.1 ∨ b = p.2)) : ∃ (n : Nat) (p : Addr × Addr) (o : Ob), Ψ.sh[n]? = some p ∧ S[n]? = some o ∧ (b = p.1 ∨ b = p.2) := by
  obtain ⟨n, p, h, e⟩ := f
  have hl : n < S.length := by rw [← s.len]; exact (List.getElem?_eq_some_iff.mp h).1
  exact ⟨n, p, S[n], h, List.getElem?_eq_getElem hl, e⟩
theorem Ext.refl (Ψ : Wd) (H : Hp) : Ext Ψ H Ψ H := ⟨Le.refl _, fun _ h => h, fun _ _ h => .inl h, fun _ h => .inl h, fun _ _ h _ => h⟩
theorem Ext.trans {A B C : Wd} {H H1 H2 : Hp} (x : Ext A H B H1) (y : Ext B H1 C H2) : Ext A H C H2 where
  le := x.le.trans y.le
  dom := fun b h => x.dom b (y.dom b h)
  nphi := fun a o h => by
    rcases y.nphi a o h with h | h
    · exact x.nphi a o h
    · exact .inr (x.dom a h)
  nmu := fun b h => by
    rcases y.nmu b h with h | h
    · exact x.nmu b h
    · exact .inr (x.dom b h)
  keep := fun b o h n => by
    refine y.keep b o (x.keep b o h n) fun f => ?_
    rcases x.nmu b f with z | z
    · exact n z
    · rw [h] at z; cases z

/-- a place of the frame -/
inductive Slot where
  | no
  | val (d : D)
  | own (ds : List D)
  | ownI (k : Nat) (fs : List (Option D))
  | ownD (ks : List (Key × D))
abbrev Env := List Slot
def RepsO (c : Cf) (Ψ : Wd) (vs : List (Option V)) (fs : List (Option D)) : Prop := ∀ (i : Nat) (d : D), fs[i]? = some (some d) → ∃ v, vs[i]? = some (some v) ∧ Rep c Ψ v d
def SlotOk (c : Cf) (Ψ : Wd) (H : Hp) (F : List Addr) (o : Option (Option V)) : Slot → Prop
  | .no => F = []
  | .val d => F = [] ∧ ∃ v, o = some (some v) ∧ Rep c Ψ v d
  | .own ds => ∃ a vs, F = [a] ∧ o = some (some (.ref a)) ∧ H a = some (.lst vs) ∧ vs.length ≤ LIM ∧ Reps c Ψ vs ds
  | .ownI k fs => ∃ a dx vs, F = [a, dx] ∧ o = some (some (.ref a)) ∧ SlX.Slt H a (c.cls k) dx vs ∧ H dx ≠ none ∧ dx ≠ a ∧ vs.length ≤ fs.length ∧ RepsO c Ψ vs fs
  | .ownD ks => ∃ a kvs, F = [a] ∧ o = some (some (.ref a)) ∧ H a = some (.dK kvs) ∧ kvs.map (·.1) = ks.map (·.1) ∧ Reps c Ψ (kvs.map (·.2)) (ks.map (·.2))
structure EnvOk (c : Cf) (Ψ : Wd) (σ : L2.St) (ρ : Env) (H : Hp) (F : Nat → List Addr) : Prop where
  len : σ.length = ρ.length
  slot : ∀ (i : Nat) s, ρ[i]? = some s → SlotOk c Ψ H (F i) σ[i]? s
  out : ∀ (i : Nat), ρ[i]? = none → F i = []
  priv : ∀ i b, b ∈ F i → Ψ.fz b = none ∧ ¬ Foot Ψ b ∧ H b ≠ none
  sep : ∀ i j b, i ≠ j → b ∈ F i → b ∉ F j
theorem Slt.keep {H H' : Hp} {a C dx : Addr} {vs : List (Option V)} (h : SlX.Slt H a C dx vs) (k : ∀ b, b = a ∨ b = dx → ∀ o, H b = some o → H' b = some o) : SlX.Slt H' a C dx vs := by
  rcases h with h | h
  · exact .inl ⟨k a (.inl rfl) _ h.1, h.2⟩
  · exact .inr ⟨k a (.inl rfl) _ h.1, k dx (.inr rfl) _ h.2⟩
theorem RepsO.mono {c : Cf} {Ψ Ψ' : Wd} (x : Le Ψ Ψ') {vs : List (Option V)} {fs : List (Option D)} (h : RepsO c Ψ vs fs) : RepsO c Ψ' vs fs := fun i d e => by
  obtain ⟨v, h1, h2⟩ := h i d e
  exact ⟨v, h1, h2.mono x⟩
theorem SlotOk.keep {c : Cf} {Ψ Ψ' : Wd} {H H' : Hp} {F : List Addr} {o : Option (Option V)} {s : Slot} (h : SlotOk c Ψ H F o s) (x : Le Ψ Ψ') (k : ∀ b ∈ F, ∀ u, H b = some u → H' b = some u) : SlotOk c Ψ' H' F o s := by
  cases s with
  | no => exact h
  | val d => obtain ⟨e, v, h1, h2⟩ := h; exact ⟨e, v, h1, h2.mono x⟩
  | own ds => obtain ⟨a, vs, e, h1, h2, l, h3⟩ := h; exact ⟨a, vs, e, h1, k a (by rw [e]; simp) _ h2, l, h3.mono x⟩
  | ownD ks => obtain ⟨a, vs, e, h1, h2, l, h3⟩ := h; exact ⟨a, vs, e, h1, k a (by rw [e]; simp) _ h2, l, h3.mono x⟩
  | ownI kk fs =>
    obtain ⟨a, dx, vs, e, h1, h2, h3, ne, l, h4⟩ := h
    refine ⟨a, dx, vs, e, h1, Slt.keep h2 (fun b hb => k b (by rw [e]; rcases hb with rfl | rfl <;> simp)), fun z => ?_, ne, l, h4.mono x⟩
    cases q : H dx with
    | none => exact h3 q
    | some u => rw [k dx (by rw [e]; simp) u q] at z; cases z
theorem EnvOk.ext {c : Cf} {Ψ Ψ' : Wd} {σ : L2.St} {ρ : Env} {H H' : Hp} {F : Nat → List Addr} (e : EnvOk c Ψ σ ρ H F) (x : Ext Ψ H Ψ' H') : EnvOk c Ψ' σ ρ H' F := by
  refine ⟨e.len, fun i s hs => (e.slot i s hs).keep x.le fun b hb u hu => x.keep b u hu (e.priv i b hb).2.1, e.out, fun i b hb => ?_, e.sep⟩
  obtain ⟨p1, p2, p3⟩ := e.priv i b hb
  refine ⟨?_, fun f => ?_, fun z => p3 (x.dom b z)⟩
  · cases q : Ψ'.fz b with
    | none => rfl
    | some o =>
      rcases x.nphi b o q with z | z
      · rw [p1] at z; cases z
      · exact absurd z p3
  · rcases x.nmu b f with z | z
    · exact p2 z
    · exact p3 z
end Sm

/-! text: Sim2 -/
set_option Elab.async false
set_option linter.all false
set_option maxRecDepth 100000
set_option maxHeartbeats 1000000
namespace Sm
open PySem PySem.Spec PyProof.Rows L2

/-- what is told of an exception: its own dict, where it has fields -/
def XRep (c : Cf) (Ψ : Wd) (fs : List D) (d : Option Addr) : Prop := match fs with
  | [] => d = none
  | [.str x, f] => ∃ dd v, d = some dd ∧ Ψ.fz dd = some (.xd [(x, v)]) ∧ Rep c Ψ v f
  | _ => False
def ErrP (c : Cf) (W : XK) (Ψ : Wd) (H : Hp) (k : Nat) (fs : List D) (S : Sto) : Prop :=
  ∀ Ψ' d H', Ext Ψ H Ψ' H' → StoOk c Ψ' H' S → XRep c Ψ' fs d → W (.ref (c.cls k)) d H'
def Post (c : Cf) {α : Type} (W : XK) (Ψ : Wd) (H : Hp) (r : Res α) (R : α → Sto → Prop) : Prop := match r with
  | .ok a S => R a S
  | .err k fs S => ErrP c W Ψ H k fs S
  | .stuck => False
theorem ErrP.mono {c : Cf} {W : XK} {Ψ Ψ' : Wd} {H H' : Hp} {k : Nat} {fs : List D} {S : Sto} (x : Ext Ψ H Ψ' H') (h : ErrP c W Ψ H k fs S) : ErrP c W Ψ' H' k fs S :=
  fun Ψ2 d H2 y => h Ψ2 d H2 (x.trans y)
theorem Post.mono {c : Cf} {α : Type} {W : XK} {Ψ : Wd} {H : Hp} {r : Res α} {R R' : α → Sto → Prop} (h : Post c W Ψ H r R) (k : ∀ a S, R a S → R' a S) : Post c W Ψ H r R' := by
  cases r with
  | ok a S => exact k a S h
  | err k fs S => exact h
  | stuck => exact h
theorem Post.bd {c : Cf} {α β : Type} {W : XK} {Ψ : Wd} {H : Hp} {m : M α} {f : α → M β} {S : Sto} {R : β → Sto → Prop} (h : Post c W Ψ H (bd m f S) R) :
    Post c W Ψ H (m S) fun a S1 => Post c W Ψ H (f a S1) R := by
  unfold Sm.bd at h
  cases e : m S with
  | ok a S1 => rw [e] at h; exact h
  | err k fs S1 => rw [e] at h; exact h
  | stuck => rw [e] at h; exact h.elim
theorem Post.ext {c : Cf} {α : Type} {W : XK} {Ψ Ψ' : Wd} {H H' : Hp} {r : Res α} {R : α → Sto → Prop} (x : Ext Ψ H Ψ' H') (h : Post c W Ψ H r R) : Post c W Ψ' H' r R := by
  cases r with
  | ok a S => exact h
  | err k fs S => exact ErrP.mono x h
  | stuck => exact h
theorem Post.noX {c : Cf} {α : Type} {W W' : XK} {Ψ : Wd} {H : Hp} {m : M α} {S : Sto} {R : α → Sto → Prop} (h : Post c W Ψ H (noX m S) R) : Post c W' Ψ H (m S) R := by
  unfold Sm.noX at h
  cases e : m S with
  | ok a S1 => rw [e] at h; exact h
  | err k fs S1 => rw [e] at h; exact h.elim
  | stuck => rw [e] at h; exact h.elim

/-- it comes to an end, without an error -/
def Ok0 {α : Type} (r : Res α) (R : α → Sto → Prop) : Prop := match r with
  | .ok a S => R a S
  | _ => False
theorem Ok0.mono {α : Type} {r : Res α} {R R' : α → Sto → Prop} (h : Ok0 r R) (k : ∀ a S, R a S → R' a S) : Ok0 r R' := by
  cases r with
  | ok a S => exact k a S h
  | err k fs S => exact h
  | stuck => exact h
theorem Ok0.post {c : Cf} {α : Type} {W : XK} {Ψ : Wd} {H : Hp} {r : Res α} {R : α → Sto → Prop} (h : Ok0 r R) : Post c W Ψ H r R := by
  cases r with
  | ok a S => exact h
  | err k fs S => exact h.elim
  | stuck => exact h.elim
theorem Ok0.bd {α β : Type} {m : M α} {f : α → M β} {S : Sto} {R : β → Sto → Prop} (h : Ok0 (bd m f S) R) : Ok0 (m S) fun a S1 => Ok0 (f a S1) R := by
  unfold Sm.bd at h
  cases e : m S with
  | ok a S1 => rw [e] at h; exact h
  | err k fs S1 => rw [e] at h; exact h.elim
  | stuck => rw [e] at h; exact h.elim
theorem Post.ok0 {c : Cf} {α : Type} {W : XK} {Ψ : Wd} {H : Hp} {m : M α} {S : Sto} {R : α → Sto → Prop} (h : Post c W Ψ H (Sm.noX m S) R) : Ok0 (m S) R := by
  unfold Sm.noX at h
  cases e : m S with
  | ok a S1 => rw [e] at h; exact h
  | err k fs S1 => rw [e] at h; exact h.elim
  | stuck => rw [e] at h; exact h.elim

/-- a list that is only read may stand as the frame's own -/
def RepB (c : Cf) (Ψ : Wd) (σ : L2.St) (ρ : Env) (v : V) (d : D) : Prop := Rep c Ψ v d ∨ ∃ (i : Nat) (ds : List D), d = .lst ds ∧ ρ[i]? = some (.own ds) ∧ σ[i]? = some (some v)
/-- .. by the heap -/
def RepH (c : Cf) (Ψ : Wd) (H : Hp) (v : V) (d : D) : Prop := Rep c Ψ v d ∨ ∃ a vs ds, v = .ref a ∧ d = .lst ds ∧ H a = some (.lst vs) ∧ vs.length ≤ LIM ∧ Reps c Ψ vs ds
theorem RepB.h {c : Cf} {Ψ : Wd} {σ : L2.St} {ρ : Env} {H : Hp} {F : Nat → List Addr} {v : V} {d : D} (e : EnvOk c Ψ σ ρ H F) (r : RepB c Ψ σ ρ v d) : RepH c Ψ H v d := by
  rcases r with r | ⟨i, ds, rfl, h1, h2⟩
  · exact .inl r
  · obtain ⟨a, vs, _, z, h3, l, h4⟩ := e.slot i _ h1
    rw [h2] at z
    exact .inr ⟨a, vs, ds, by injection z with z; injection z, rfl, h3, l, h4⟩
theorem RepB.mono {c : Cf} {Ψ Ψ' : Wd} {σ : L2.St} {ρ : Env} {v : V} {d : D} (x : Le Ψ Ψ') (r : RepB c Ψ σ ρ v d) : RepB c Ψ' σ ρ v d := r.elim (fun r => .inl (r.mono x)) .inr
inductive RepBs (c : Cf) (Ψ : Wd) (σ : L2.St) (ρ : Env) : List V → List D → Prop
  | nil : RepBs c Ψ σ ρ [] []
  | cons {v : V} {vs : List V} {d : D} {ds : List D} (h : RepB c Ψ σ ρ v d) (t : RepBs c Ψ σ ρ vs ds) : RepBs c Ψ σ ρ (v :: vs) (d :: ds)

/-! ### readings -/
abbrev RN (c : Cf) (Ψ : Wd) (H : Hp) (Q : VK) : List D → Sto → Prop := fun ds S' => ∀ Ψ' a vs H', Ext Ψ H Ψ' H' → StoOk c Ψ' H' S' → H' a = some (.lst vs) → vs.length ≤ LIM → Reps c Ψ' vs ds → Ψ'.fz a = none → ¬ Foot Ψ' a → H a = none → Q (.ref a) H'
section
variable (c : Cf) (W : L2.St → XK)
def rB (m : Env → M D) : TE := fun σ H Q => ∃ Ψ ρ S F, StoOk c Ψ H S ∧ EnvOk c Ψ σ ρ H F ∧
  Post c (W σ) Ψ H (m ρ S) fun d S' => ∀ Ψ' v H', Ext Ψ H Ψ' H' → StoOk c Ψ' H' S' → RepB c Ψ' σ ρ v d → Q v H'
def rE (m : Env → M D) : TE := fun σ H Q => ∃ Ψ ρ S F, StoOk c Ψ H S ∧ EnvOk c Ψ σ ρ H F ∧
  Post c (W σ) Ψ H (m ρ S) fun d S' => ∀ Ψ' v H', Ext Ψ H Ψ' H' → StoOk c Ψ' H' S' → Rep c Ψ' v d → Q v H'
/-- a list that no one knows as yet -/
def rN (m : Env → M (List D)) : TE := fun σ H Q => ∃ Ψ ρ S F, StoOk c Ψ H S ∧ EnvOk c Ψ σ ρ H F ∧
  Post c (W σ) Ψ H (m ρ S) (RN c Ψ H Q)
def rT (m : Env → M Bool) : TT := fun σ H Q => ∃ Ψ ρ S F, StoOk c Ψ H S ∧ EnvOk c Ψ σ ρ H F ∧
  Post c (W σ) Ψ H (m ρ S) fun b S' => ∀ Ψ' H', Ext Ψ H Ψ' H' → StoOk c Ψ' H' S' → Q b H'
def rA (m : Env → M (List D)) : TA := fun σ H Q => ∃ Ψ ρ S F, StoOk c Ψ H S ∧ EnvOk c Ψ σ ρ H F ∧
  Post c (W σ) Ψ H (m ρ S) fun ds S' => ∀ Ψ' vs H', Ext Ψ H Ψ' H' → StoOk c Ψ' H' S' → Reps c Ψ' vs ds → Q vs H'
def rAB (m : Env → M (List D)) : TA := fun σ H Q => ∃ Ψ ρ S F, StoOk c Ψ H S ∧ EnvOk c Ψ σ ρ H F ∧
  Post c (W σ) Ψ H (m ρ S) fun ds S' => ∀ Ψ' vs H', Ext Ψ H Ψ' H' → StoOk c Ψ' H' S' → RepBs c Ψ' σ ρ vs ds → Q vs H'
end

/-- judgements. SB: read at once; SE: a value that may be kept; SN: a new list -/
structure SB (c : Cf) (X : Cx) (W : L2.St → XK) (e : Expr) (m : Env → M D) : Prop where
  k : X.K = c.K
  p : PE X e (rB c W m)
structure SE (c : Cf) (X : Cx) (W : L2.St → XK) (e : Expr) (m : Env → M D) : Prop where
  k : X.K = c.K
  p : PE X e (rE c W m)
structure SN (c : Cf) (X : Cx) (W : L2.St → XK) (e : Expr) (m : Env → M (List D)) : Prop where
  k : X.K = c.K
  p : PE X e (rN c W m)
structure ST (c : Cf) (X : Cx) (W : L2.St → XK) (e : Expr) (m : Env → M Bool) : Prop where
  k : X.K = c.K
  p : PT X e (rT c W m)
structure SA (c : Cf) (X : Cx) (W : L2.St → XK) (es : List Expr) (m : Env → M (List D)) : Prop where
  k : X.K = c.K
  p : PA X es (rA c W m)
structure SAB (c : Cf) (X : Cx) (W : L2.St → XK) (es : List Expr) (m : Env → M (List D)) : Prop where
  k : X.K = c.K
  p : PA X es (rAB c W m)

theorem PE.imp {X : Cx} {e : Expr} {t u : TE} (h : PE X e t) (k : ∀ σ H Q, u σ H Q → t σ H Q) : PE X e u := ⟨fun pins s σ H Q I q => h.run pins s σ H Q I (k _ _ _ q)⟩
theorem PT.imp {X : Cx} {e : Expr} {t u : TT} (h : PT X e t) (k : ∀ σ H Q, u σ H Q → t σ H Q) : PT X e u := ⟨fun pins s σ H Q I q => h.run pins s σ H Q I (k _ _ _ q)⟩
theorem PW.imp {X : Cx} {e : Expr} {t u : TT} (h : PW X e t) (k : ∀ σ H Q, u σ H Q → t σ H Q) : PW X e u := ⟨fun wh pins s σ H Q I q => h.run wh pins s σ H Q I (k _ _ _ q)⟩
theorem PA.imp {X : Cx} {es : List Expr} {t u : TA} (h : PA X es t) (k : ∀ σ H Q, u σ H Q → t σ H Q) : PA X es u := ⟨fun pos pins s σ H Q I q => h.run pos pins s σ H Q I (k _ _ _ q)⟩
theorem PS.imp {X : Cx} {st : Stmt} {t u : TS} (h : PS X st t) (k : ∀ D σ H, u D σ H → t D σ H) : PS X st u := ⟨fun pins s σ H D I q => h.run pins s σ H D I (k _ _ _ q)⟩
theorem PSs.imp {X : Cx} {st : List Stmt} {t u : TS} (h : PSs X st t) (k : ∀ D σ H, u D σ H → t D σ H) : PSs X st u := ⟨fun pins s σ H D I q => h.run pins s σ H D I (k _ _ _ q)⟩

/-! ### the new -/
/-- a new object is laid: nothing is known of it as yet -/
theorem Ext.lay {Ψ : Wd} {H : Hp} {p : Addr} {o : HO} (hp : H p = none) : Ext Ψ H Ψ (upd H p o) :=
  ⟨Le.refl _, fun b h => by
    by_cases e : b = p
    · subst e; exact hp
    · rw [upd_ne e] at h; exact h, fun _ _ h => .inl h, fun _ h => .inl h, fun b u h _ => by rw [upd_ne (ne_of_none h hp)]; exact h⟩
theorem StoOk.ofKeep {c : Cf} {Ψ : Wd} {H H' : Hp} {S : Sto} (s : StoOk c Ψ H S) (k : ∀ b o, H b = some o → H' b = some o) : StoOk c Ψ H' S where
  phi := fun a o h => k _ _ (s.phi a o h)
  off := s.off
  nd := s.nd
  len := s.len
  tbc := s.tbc
  tab := fun p hp => let ⟨ps, h1, h2⟩ := s.tab p hp; ⟨ps, k _ _ h1, h2⟩
  tnd := s.tnd
  obj := fun n o h => by
    obtain ⟨p, h1, h2⟩ := s.obj n o h
    refine ⟨p, h1, ?_⟩
    cases o with
    | lst ds => obtain ⟨vs, a, b, l, d⟩ := h2; exact ⟨vs, k _ _ a, b, l, d⟩
    | ins kk fs =>
      obtain ⟨vs, a, b, nz, d⟩ := h2
      refine ⟨vs, Slt.keep a (fun b _ => k b), b, fun z => ?_, d⟩
      cases q : H p.2 with
      | none => exact nz q
      | some u => rw [k _ u q] at z; cases z
theorem StoOk.lay {c : Cf} {Ψ : Wd} {H : Hp} {S : Sto} (s : StoOk c Ψ H S) {p : Addr} {o : HO} (hp : H p = none) : StoOk c Ψ (upd H p o) S :=
  s.ofKeep fun b u h => by rw [upd_ne (ne_of_none h hp)]; exact h
/-- an object becomes known -/
def Wd.know (Ψ : Wd) (a : Addr) (o : HO) : Wd := ⟨upd Ψ.fz a o, Ψ.sh, Ψ.tb⟩
theorem Foot.know {Ψ : Wd} {a b : Addr} {o : HO} : Foot (Ψ.know a o) b ↔ Foot Ψ b := Iff.rfl
theorem Le.know {Ψ : Wd} {a : Addr} {o : HO} (h : Ψ.fz a = none) : Le Ψ (Ψ.know a o) := ⟨fun b u e => by show upd Ψ.fz a o b = _; rw [upd_ne (ne_of_none e h)]; exact e, fun _ _ e => e, rfl⟩
theorem StoOk.know {c : Cf} {Ψ : Wd} {H : Hp} {S : Sto} (s : StoOk c Ψ H S) {a : Addr} {o : HO} (h : H a = some o) (n : Ψ.fz a = none) (f : ¬ Foot Ψ a) : StoOk c (Ψ.know a o) H S where
  phi := fun b u e => by
    by_cases q : b = a
    · subst q
      have e' : upd Ψ.fz b o b = some u := e
      rw [upd_same] at e'; cases e'; exact h
    · have e' : upd Ψ.fz a o b = some u := e
      rw [upd_ne q] at e'; exact s.phi b u e'
  off := fun b e => by
    show upd Ψ.fz a o b = none
    have q : b ≠ a := fun z => f (by rw [← z]; exact e)
    rw [upd_ne q]; exact s.off b e
  nd := s.nd
  len := s.len
  tbc := s.tbc
  tab := fun p hp => let ⟨ps, h1, h2, h3⟩ := s.tab p hp; ⟨ps, h1, h2, fun pos cv hc => let ⟨a, e1, e2⟩ := h3 pos cv hc; ⟨a, e1, (Le.know n).phi _ _ e2⟩⟩
  tnd := s.tnd
  obj := fun i u e => by
    obtain ⟨p, h1, h2⟩ := s.obj i u e
    refine ⟨p, h1, ?_⟩
    cases u with
    | lst ds => obtain ⟨vs, a, b, l, d⟩ := h2; exact ⟨vs, a, b, l, d.mono (Le.know n)⟩
    | ins kk fs => obtain ⟨vs, a, b, nz, d⟩ := h2; exact ⟨vs, a, b, nz, d.mono (Le.know n)⟩
/-- laid and known at once -/
theorem Ext.new {Ψ : Wd} {H : Hp} {p : Addr} {o : HO} (hp : H p = none) (n : Ψ.fz p = none) : Ext Ψ H (Ψ.know p o) (upd H p o) where
  le := Le.know n
  dom := (Ext.lay (Ψ := Ψ) hp).dom
  nphi := fun a u h => by
    by_cases e : a = p
    · subst e; exact .inr hp
    · have h' : upd Ψ.fz p o a = some u := h
      rw [upd_ne e] at h'; exact .inl h'
  nmu := fun b h => .inl h
  keep := (Ext.lay (Ψ := Ψ) hp).keep
theorem StoOk.phiNone {c : Cf} {Ψ : Wd} {H : Hp} {S : Sto} (s : StoOk c Ψ H S) {p : Addr} (hp : H p = none) : Ψ.fz p = none := by
  cases e : Ψ.fz p with
  | none => rfl
  | some o => rw [s.phi p o e] at hp; cases hp
theorem StoOk.footNone {c : Cf} {Ψ : Wd} {H : Hp} {S : Sto} (s : StoOk c Ψ H S) {b : Addr} (hp : H b = none) : ¬ Foot Ψ b := fun f => by
  rcases Or.symm f with ⟨q, f⟩ | f
  · obtain ⟨ps, h1, _⟩ := s.tab _ f
    have h1' : H b = _ := h1
    rw [hp] at h1'; cases h1'
  obtain ⟨n, p, o, h1, h2, e⟩ := s.foot f
  obtain ⟨p', h3, h4⟩ := s.obj n o h2
  rw [h1] at h3
  cases h3
  cases o with
  | lst ds =>
    obtain ⟨vs, a, b', _⟩ := h4
    rcases e with rfl | rfl
    · rw [a] at hp; cases hp
    · rw [b', a] at hp; cases hp
  | ins k fs =>
    obtain ⟨vs, a, _, nz, _⟩ := h4
    rcases e with rfl | rfl
    · exact Slt.there a hp
    · exact nz hp
theorem StoOk.new {c : Cf} {Ψ : Wd} {H : Hp} {S : Sto} (s : StoOk c Ψ H S) {p : Addr} {o : HO} (hp : H p = none) : StoOk c (Ψ.know p o) (upd H p o) S :=
  (s.lay hp).know upd_same (s.phiNone hp) (s.footNone hp)
end Sm

/-! text: Sim3 -/
set_option Elab.async false
set_option linter.all false
set_option maxRecDepth 100000
set_option maxHeartbeats 1000000
namespace Sm
open PySem PySem.Spec PyProof.Rows L2

/-! ### what RepH tells -/
section
variable {c : Cf} {Ψ : Wd} {H : Hp} {S : Sto} {v : V}
theorem sqT_phi {K : PySem.W.Frag} (s : StoOk c Ψ H S) {a : Addr} {vs : List V} (h : SqT K Ψ.fz a vs) : SqT K H a vs := by
  rcases h with (h | ⟨o, h⟩) | h
  · exact .inl (.inl (s.phi _ _ h))
  · exact .inl (.inr ⟨o, s.phi _ _ h⟩)
  · exact .inr h
theorem slt_phi (s : StoOk c Ψ H S) {a C dx : Addr} {vs : List (Option V)} (h : SlX.Slt Ψ.fz a C dx vs) : SlX.Slt H a C dx vs :=
  h.elim (fun h => .inl ⟨s.phi _ _ h.1, h.2⟩) fun h => .inr ⟨s.phi _ _ h.1, s.phi _ _ h.2⟩
theorem RepH.lst (s : StoOk c Ψ H S) {ds : List D} (h : RepH c Ψ H v (.lst ds)) : ∃ a vs, v = .ref a ∧ H a = some (.lst vs) ∧ vs.length ≤ LIM ∧ Reps c Ψ vs ds := by
  rcases h with h | ⟨a, vs, ds', rfl, e, h1, l, h2⟩
  · cases h with
    | lst h l r => exact ⟨_, _, rfl, s.phi _ _ h, l, r⟩
  · injection e with e; subst e; exact ⟨a, vs, rfl, h1, l, h2⟩
theorem RepH.rep {d : D} (h : RepH c Ψ H v d) (n : ∀ ds, d ≠ .lst ds) : Rep c Ψ v d := by
  rcases h with h | ⟨a, vs, ds', rfl, e, h1, l, h2⟩
  · exact h
  · exact absurd e (n _)
theorem RepH.tup (s : StoOk c Ψ H S) {ds : List D} (h : RepH c Ψ H v (.tup ds)) : ∃ a vs, v = .ref a ∧ SqT c.K H a vs ∧ vs.length ≤ LIM ∧ Reps c Ψ vs ds := by
  cases h.rep (fun _ z => by cases z) with
  | tup h0 l0 r0 => exact ⟨_, _, rfl, sqT_phi s h0, l0, r0⟩
theorem sqL_phi {K : PySem.W.Frag} (s : StoOk c Ψ H S) {a : Addr} {vs : List V} (h : SqL K Ψ.fz a vs) : SqL K H a vs := by
  rcases h with (h | ⟨o, h⟩) | h
  · exact .inl (.inl (s.phi _ _ h))
  · exact .inl (.inr ⟨o, s.phi _ _ h⟩)
  · exact .inr h
theorem RepH.scr (s : StoOk c Ψ H S) {ds : List D} (h : RepH c Ψ H v (.scr ds)) : ∃ a vs, v = .ref a ∧ SqL c.K H a vs ∧ vs.length ≤ LIM ∧ Reps c Ψ vs ds := by
  cases h.rep (fun _ z => by cases z) with
  | scr h0 l0 r0 => exact ⟨_, _, rfl, sqL_phi s h0, l0, r0⟩
theorem RepH.int {i : Int} (h : RepH c Ψ H v (.int i)) : v = .int i := by
  cases h.rep (fun _ z => by cases z); rfl
theorem RepH.bl {i : Bool} (h : RepH c Ψ H v (.bl i)) : v = .bl i := by
  cases h.rep (fun _ z => by cases z); rfl
theorem RepH.str {i : Str} (h : RepH c Ψ H v (.str i)) : v = .str i := by
  cases h.rep (fun _ z => by cases z); rfl
theorem RepH.non (h : RepH c Ψ H v .non) : v = .non := by
  cases h.rep (fun _ z => by cases z); rfl
theorem RepH.ref (s : StoOk c Ψ H S) {n : Nat} {o : Ob} (e : S[n]? = some o) (h : RepH c Ψ H v (.ref n)) : ∃ p, Ψ.sh[n]? = some p ∧ v = .ref p.1 ∧ ObOk c Ψ H p o := by
  cases h.rep (fun _ z => by cases z) with
  | obj h =>
    obtain ⟨p, h1, h2⟩ := s.obj n o e
    rw [h] at h1; cases h1
    exact ⟨_, h, rfl, h2⟩
theorem RepH.ins (s : StoOk c Ψ H S) {k : Nat} {fs : List D} (h : RepH c Ψ H v (.ins k fs)) : ∃ a dx vs, v = .ref a ∧ SlX.Slt H a (c.cls k) dx (vs.map some) ∧ Reps c Ψ vs fs := by
  cases h.rep (fun _ z => by cases z) with
  | ins h0 r0 => exact ⟨_, _, _, rfl, slt_phi s h0, r0⟩
theorem RepH.isNon {d : D} (h : RepH c Ψ H v d) : decide (v = .non) = (match d with | .non => true | _ => false) := by
  rcases h with h | ⟨a, vs, ds', rfl, rfl, h1, l, h2⟩
  · cases h <;> first | rfl | exact decide_eq_false (fun z => nomatch z)
  · exact decide_eq_false (fun z => nomatch z)
end

/-! ### data -/
mutual
def D.py : D → Option PyData
  | .non => some .none
  | .bl b => some (.bool b)
  | .int i => some (.int i)
  | .str x => some (.str x)
  | .tup ds => match D.pys ds with
    | some xs => some (.tuple xs)
    | none => none
  | .lst ds => match D.pys ds with
    | some xs => some (.list xs)
    | none => none
  | _ => none
def D.pys : List D → Option (List PyData)
  | [] => some []
  | d :: ds => match D.py d, D.pys ds with
    | some x, some xs => some (x :: xs)
    | _, _ => none
end
mutual
theorem D.plain : ∀ {d : D} {p : PyData}, d.py = some p → p.plain = true
  | .non, _, h => by simp only [D.py, Option.some.injEq] at h; subst h; rfl
  | .bl _, _, h => by simp only [D.py, Option.some.injEq] at h; subst h; rfl
  | .int _, _, h => by simp only [D.py, Option.some.injEq] at h; subst h; rfl
  | .str _, _, h => by simp only [D.py, Option.some.injEq] at h; subst h; rfl
  | .tup ds, _, h => by
    unfold D.py at h
    split at h
    · cases h
      simp only [PyData.plain]
      exact D.plains (by assumption)
    · cases h
  | .lst ds, _, h => by
    unfold D.py at h
    split at h
    · cases h
      simp only [PyData.plain]
      exact D.plains (by assumption)
    · cases h
  | .scr _, _, h => by simp [D.py] at h
  | .ins _ _, _, h => by simp [D.py] at h
  | .dct _, _, h => by simp [D.py] at h
  | .ref _, _, h => by simp [D.py] at h
  | .cls _, _, h => by simp [D.py] at h
  | .ty _, _, h => by simp [D.py] at h
  | .pt _, _, h => by simp [D.py] at h
theorem D.plains : ∀ {ds : List D} {ps : List PyData}, D.pys ds = some ps → PyData.plainAll ps = true
  | [], _, h => by simp only [D.pys, Option.some.injEq] at h; subst h; rfl
  | d :: ds, _, h => by
    unfold D.pys at h
    split at h
    · cases h
      simp only [PyData.plainAll, Bool.and_eq_true]
      exact ⟨D.plain (by assumption), D.plains (by assumption)⟩
    · cases h
end
section
variable {c : Cf} {Ψ : Wd} {H : Hp} {S : Sto}
mutual
theorem Rep.dp (s : StoOk c Ψ H S) : ∀ {d : D} {v : V} {p : PyData}, Rep c Ψ v d → d.py = some p → Dp c.K H v p
  | .non, _, _, r, h => by simp only [D.py, Option.some.injEq] at h; subst h; cases r; exact .non
  | .bl _, _, _, r, h => by simp only [D.py, Option.some.injEq] at h; subst h; cases r; exact .bl _
  | .int _, _, _, r, h => by simp only [D.py, Option.some.injEq] at h; subst h; cases r; exact .int _
  | .str _, _, _, r, h => by simp only [D.py, Option.some.injEq] at h; subst h; cases r; exact .str _
  | .tup ds, _, _, r, h => by
    unfold D.py at h
    split at h
    · cases h
      cases r with
      | tup hs l r => exact .tup (sqT_phi s hs) (Reps.dps s r (by assumption))
    · cases h
  | .lst ds, _, _, r, h => by
    unfold D.py at h
    split at h
    · cases h
      cases r with
      | lst hs l r => exact .lst (SqL.of (s.phi _ _ hs)) (Reps.dps s r (by assumption))
    · cases h
  | .scr _, _, _, _, h => by simp [D.py] at h
  | .ins _ _, _, _, _, h => by simp [D.py] at h
  | .dct _, _, _, _, h => by simp [D.py] at h
  | .ref _, _, _, _, h => by simp [D.py] at h
  | .cls _, _, _, _, h => by simp [D.py] at h
  | .ty _, _, _, _, h => by simp [D.py] at h
  | .pt _, _, _, _, h => by simp [D.py] at h
theorem Reps.dps (s : StoOk c Ψ H S) : ∀ {ds : List D} {vs : List V} {ps : List PyData}, Reps c Ψ vs ds → D.pys ds = some ps → DpAll c.K H vs ps
  | [], _, _, r, h => by simp only [D.pys, Option.some.injEq] at h; subst h; cases r; exact .nil
  | d :: ds, _, _, r, h => by
    unfold D.pys at h
    split at h
    · cases h
      cases r with
      | cons r1 r2 => exact .cons (Rep.dp s r1 (by assumption)) (Reps.dps s r2 (by assumption))
    · cases h
end
theorem RepH.dp (s : StoOk c Ψ H S) {d : D} {v : V} {p : PyData} (r : RepH c Ψ H v d) (h : d.py = some p) : Dp c.K H v p := by
  rcases r with r | ⟨a, vs, ds, rfl, rfl, h1, l, h2⟩
  · exact r.dp s h
  · unfold D.py at h
    split at h
    · cases h
      exact .lst (SqL.of h1) (Reps.dps s h2 (by assumption))
    · cases h
end

/-! ### operations by values -/
/-- two operands, no store is changed -/
def V2 (c : Cf) (r : R2) (f : D → D → Sto → Option D) : Prop := ∀ Ψ H S x y a b d Q, StoOk c Ψ H S → RepH c Ψ H x a → RepH c Ψ H y b → f a b S = some d →
  (∀ Ψ' v H', Ext Ψ H Ψ' H' → StoOk c Ψ' H' S → Rep c Ψ' v d → Q v H') → r x y H Q
/-- .. that give a new list -/
def V2N (c : Cf) (r : R2) (f : D → D → Sto → Option (List D)) : Prop := ∀ Ψ H S x y a b ds Q, StoOk c Ψ H S → RepH c Ψ H x a → RepH c Ψ H y b → f a b S = some ds →
  (∀ p vs, H p = none → vs.length ≤ LIM → Reps c Ψ vs ds → Q (.ref p) (upd H p (.lst vs))) → r x y H Q
def V1 (c : Cf) (r : V → Hp → VK → Prop) (f : D → Sto → Option D) : Prop := ∀ Ψ H S x a d Q, StoOk c Ψ H S → RepH c Ψ H x a → f a S = some d →
  (∀ Ψ' v H', Ext Ψ H Ψ' H' → StoOk c Ψ' H' S → Rep c Ψ' v d → Q v H') → r x H Q
def op2 (f : D → D → Sto → Option D) (a b : D) : M D := fun S => match f a b S with
  | some d => .ok d S
  | none => .stuck
def op2N (f : D → D → Sto → Option (List D)) (a b : D) : M (List D) := fun S => match f a b S with
  | some d => .ok d S
  | none => .stuck
def op1 (f : D → Sto → Option D) (a : D) : M D := fun S => match f a S with
  | some d => .ok d S
  | none => .stuck
/-- the value itself, the heap as it is -/
theorem fin0 {c : Cf} {Ψ : Wd} {H : Hp} {S : Sto} {d : D} {Q : VK} {v : V} (s : StoOk c Ψ H S) (q : ∀ Ψ' v H', Ext Ψ H Ψ' H' → StoOk c Ψ' H' S → Rep c Ψ' v d → Q v H') (r : Rep c Ψ v d) : Q v H := q Ψ v H (Ext.refl _ _) s r
/-- a new tuple -/
theorem finT {c : Cf} {Ψ : Wd} {H : Hp} {S : Sto} {ds : List D} {vs : List V} {Q : VK} {p : Addr} (s : StoOk c Ψ H S) (q : ∀ Ψ' v H', Ext Ψ H Ψ' H' → StoOk c Ψ' H' S → Rep c Ψ' v (.tup ds) → Q v H') (l : vs.length ≤ LIM) (r : Reps c Ψ vs ds) (hp : H p = none) : Q (.ref p) (upd H p (.tup vs)) :=
  q _ _ _ (Ext.new hp (s.phiNone hp)) (s.new hp) (.tup (.inl (.inl upd_same)) l (r.mono (Le.know (s.phiNone hp))))
/-- a new list, kept as it is -/
theorem finL {c : Cf} {Ψ : Wd} {H : Hp} {S : Sto} {ds : List D} {vs : List V} {Q : VK} {p : Addr} (s : StoOk c Ψ H S) (q : ∀ Ψ' v H', Ext Ψ H Ψ' H' → StoOk c Ψ' H' S → Rep c Ψ' v (.lst ds) → Q v H') (l : vs.length ≤ LIM) (r : Reps c Ψ vs ds) (hp : H p = none) : Q (.ref p) (upd H p (.lst vs)) :=
  q _ _ _ (Ext.new hp (s.phiNone hp)) (s.new hp) (.lst (show upd Ψ.fz p _ p = _ from upd_same) l (r.mono (Le.know (s.phiNone hp))))
theorem V2N.v2 {c : Cf} {r : R2} {f : D → D → Sto → Option (List D)} (h : V2N c r f) : V2 c r (fun a b S => (f a b S).map .lst) := by
  intro Ψ H S x y a b d Q s ra rb e q
  obtain ⟨ds, e1, rfl⟩ := Option.map_eq_some_iff.mp e
  exact h Ψ H S x y a b ds Q s ra rb e1 fun p vs hp l r => finL s q l r hp
theorem V2.or {c : Cf} {r r' : R2} {f f' : D → D → Sto → Option D} (h : V2 c r f) (h' : V2 c r' f') : V2 c (fun x y H Q => r x y H Q ∨ r' x y H Q) (fun a b S => match f a b S with | some d => some d | none => f' a b S) := by
  intro Ψ H S x y a b d Q s ra rb e q
  dsimp only at e
  cases z : f a b S with
  | some d' => rw [z] at e; cases e; exact .inl (h Ψ H S x y a b _ Q s ra rb z q)
  | none => rw [z] at e; exact .inr (h' Ψ H S x y a b _ Q s ra rb e q)
theorem V1.or {c : Cf} {r r' : V → Hp → VK → Prop} {f f' : D → Sto → Option D} (h : V1 c r f) (h' : V1 c r' f') : V1 c (fun x H Q => r x H Q ∨ r' x H Q) (fun a S => match f a S with | some d => some d | none => f' a S) := by
  intro Ψ H S x a d Q s ra e q
  dsimp only at e
  cases z : f a S with
  | some d' => rw [z] at e; cases e; exact .inl (h Ψ H S x a _ Q s ra z q)
  | none => rw [z] at e; exact .inr (h' Ψ H S x a _ Q s ra e q)

/-- ints -/
def intsD (g : Int → Int → D) : D → D → Sto → Option D := fun a b _ => match a, b with
  | .int i, .int j => some (g i j)
  | _, _ => none
theorem v2_int {c : Cf} {g : Int → Int → V} {g' : Int → Int → D} (hg : ∀ i j Ψ, Rep c Ψ (g i j) (g' i j)) : V2 c (rI0 g) (intsD g') := by
  intro Ψ H S x y a b d Q s ra rb e q
  unfold intsD at e
  split at e
  · cases e
    cases ra.int; cases rb.int
    exact ⟨_, _, rfl, rfl, fin0 s q (hg _ _ _)⟩
  · cases e
def intsIf (C : Int → Int → Bool) (g : Int → Int → D) : D → D → Sto → Option D := fun a b _ => match a, b with
  | .int i, .int j => if C i j = true then some (g i j) else none
  | _, _ => none
theorem v2_intIf {c : Cf} {C : Int → Int → Prop} {C' : Int → Int → Bool} {g : Int → Int → V} {g' : Int → Int → D} (hC : ∀ i j, C' i j = true → C i j) (hg : ∀ i j Ψ, Rep c Ψ (g i j) (g' i j)) : V2 c (rI C g) (intsIf C' g') := by
  intro Ψ H S x y a b d Q s ra rb e q
  unfold intsIf at e
  split at e
  · split at e
    · cases e
      cases ra.int; cases rb.int
      exact ⟨_, _, rfl, rfl, hC _ _ (by assumption), fin0 s q (hg _ _ _)⟩
    · cases e
  · cases e
def addI : D → D → Sto → Option D := intsD fun i j => .int (i + j)
def subI : D → D → Sto → Option D := intsD fun i j => .int (i - j)
theorem v2_addI {c : Cf} : V2 c (rI0 fun i j => .int (i + j)) addI := v2_int fun _ _ _ => .int _
theorem v2_subI {c : Cf} : V2 c (rI0 fun i j => .int (i - j)) subI := v2_int fun _ _ _ => .int _
def smallI (i : Int) : Bool := decide (-(2 ^ 64) < i) && decide (i < 2 ^ 64)
def mulI : D → D → Sto → Option D := intsIf (fun i j => smallI i || smallI j) fun i j => .int (i * j)
theorem v2_mulI {c : Cf} : V2 c (rI CMul fun i j => .int (i * j)) mulI := v2_intIf (fun i j h => by
  simp only [smallI, Bool.or_eq_true, Bool.and_eq_true, decide_eq_true_eq] at h
  exact h) fun _ _ _ => .int _
def modI : D → D → Sto → Option D := intsIf (fun _ j => decide (0 < j)) fun i j => .int (i % j)
theorem v2_modI {c : Cf} : V2 c (rI (fun _ j => 0 < j) fun i j => .int (i % j)) modI := v2_intIf (fun i j h => of_decide_eq_true h) fun _ _ _ => .int _
def divI : D → D → Sto → Option D := intsIf (fun _ j => decide (0 < j) && decide (j < 2 ^ 1000)) fun i j => .int (i / j)
theorem v2_divI {c : Cf} : V2 c (rI CDivW fun i j => .int (i / j)) divI := v2_intIf (fun i j h => by
  simp only [Bool.and_eq_true, decide_eq_true_eq] at h
  refine wide_div h.1 (b := 1000) ?_ (by decide) (by decide)
  have h1 := h.1
  have h2 : ((j.natAbs : Nat) : Int) < ((2 ^ 1000 : Nat) : Int) := by
    rw [Int.natAbs_of_nonneg (by omega)]
    exact h.2
  exact Int.ofNat_lt.mp h2) fun _ _ _ => .int _
def powI : D → D → Sto → Option D := intsIf (fun i j => decide (0 ≤ j) && decide (j ≤ 100) && decide (i.natAbs < 1000)) fun i j => .int (i ^ j.toNat)
theorem v2_powI {c : Cf} : V2 c (rI CPow fun i j => .int (i ^ j.toNat)) powI := v2_intIf (fun i j h => by
  simp only [Bool.and_eq_true, decide_eq_true_eq] at h
  refine ⟨h.1.1, by omega, Nat.lt_of_lt_of_le h.2 (by decide)⟩) fun _ _ _ => .int _
def ltI : D → D → Sto → Option D := intsD fun i j => .bl (decide (i < j))
def leI : D → D → Sto → Option D := intsD fun i j => .bl (decide (i ≤ j))
def gtI : D → D → Sto → Option D := intsD fun i j => .bl (decide (j < i))
def geI : D → D → Sto → Option D := intsD fun i j => .bl (decide (j ≤ i))
theorem v2_ltI {c : Cf} : V2 c (rI0 fun i j => .bl (decide (i < j))) ltI := v2_int fun _ _ _ => .bl _
theorem v2_leI {c : Cf} : V2 c (rI0 fun i j => .bl (decide (i ≤ j))) leI := v2_int fun _ _ _ => .bl _
theorem v2_gtI {c : Cf} : V2 c (rI0 fun i j => .bl (decide (j < i))) gtI := v2_int fun _ _ _ => .bl _
theorem v2_geI {c : Cf} : V2 c (rI0 fun i j => .bl (decide (j ≤ i))) geI := v2_int fun _ _ _ => .bl _
/-- texts -/
def addS : D → D → Sto → Option D := fun a b _ => match a, b with
  | .str i, .str j => if i.length + j.length ≤ LIM then some (.str (i ++ j)) else none
  | _, _ => none
theorem v2_addS {c : Cf} : V2 c (fun x y H Q => ∃ i j, x = .str i ∧ y = .str j ∧ i.length + j.length ≤ sizeLine ∧ Q (.str (i ++ j)) H) addS := by
  intro Ψ H S x y a b d Q s ra rb e q
  unfold addS at e
  split at e
  · split at e
    · cases e
      cases ra.str; cases rb.str
      exact ⟨_, _, rfl, rfl, lim_of (by assumption), fin0 s q (.str _)⟩
    · cases e
  · cases e
/-- tuples -/
def addT : D → D → Sto → Option D := fun a b _ => match a, b with
  | .tup i, .tup j => if i.length + j.length ≤ LIM then some (.tup (i ++ j)) else none
  | _, _ => none
theorem Reps.nil_iff {c : Cf} {Ψ : Wd} {vs : List V} {ds : List D} (r : Reps c Ψ vs ds) : vs = [] ↔ ds = [] := by
  cases r <;> simp
theorem v2_addT {c : Cf} : V2 c (rCatA c.K) addT := by
  intro Ψ H S x y a b d Q s ra rb e q
  unfold addT at e
  split at e
  · split at e
    · cases e
      obtain ⟨a1, vs, rfl, h1, _, r1⟩ := ra.tup s
      obtain ⟨a2, ws, rfl, h2, _, r2⟩ := rb.tup s
      refine ⟨a1, a2, vs, ws, rfl, rfl, h1, h2, lim_of (by rw [r1.length, r2.length]; assumption), fun z => ?_, fun _ z => ?_, fun _ _ p hp => finT s q (by rw [List.length_append, r1.length, r2.length]; assumption) (r1.app r2) hp⟩
      · have z' := r1.nil_iff.mp z
        subst z'
        exact fin0 s q (rb.rep fun _ z => by cases z)
      · have z' := r2.nil_iff.mp z
        subst z'
        refine fin0 s q ?_
        rw [List.append_nil]
        exact ra.rep fun _ z => by cases z
    · cases e
  · cases e
/-- lists -/
def addL : D → D → Sto → Option (List D) := fun a b _ => match a, b with
  | .lst i, .lst j => if i.length + j.length ≤ LIM then some (i ++ j) else none
  | _, _ => none
theorem v2_addL {c : Cf} : V2N c rCat addL := by
  intro Ψ H S x y a b d Q s ra rb e q
  unfold addL at e
  split at e
  · split at e
    · cases e
      obtain ⟨a1, vs, rfl, h1, _, r1⟩ := ra.lst s
      obtain ⟨a2, ws, rfl, h2, _, r2⟩ := rb.lst s
      exact ⟨a1, a2, vs, ws, rfl, rfl, h1, h2, lim_of (by rw [r1.length, r2.length]; assumption), fun p hp => q p _ hp (by rw [List.length_append, r1.length, r2.length]; assumption) (r1.app r2)⟩
    · cases e
  · cases e
theorem flat_len {α : Type} (xs : List α) : ∀ k : Nat, (List.replicate k xs).flatten.length = k * xs.length
  | 0 => by simp
  | k + 1 => by rw [List.replicate_succ, List.flatten_cons, List.length_append, flat_len xs k, Nat.succ_mul, Nat.add_comm]
def mulL : D → D → Sto → Option (List D) := fun a b _ => match a, b with
  | .lst i, .int k => if decide (-1000 ≤ k) && decide (k ≤ 1000) && decide (i.length * k.toNat ≤ LIM) then some (List.replicate k.toNat i).flatten else none
  | _, _ => none
theorem v2_mulL {c : Cf} : V2N c rRep mulL := by
  intro Ψ H S x y a b d Q s ra rb e q
  unfold mulL at e
  split at e
  · split at e
    · cases e
      rename_i h
      simp only [Bool.and_eq_true, decide_eq_true_eq] at h
      obtain ⟨a1, vs, rfl, h1, _, r1⟩ := ra.lst s
      cases rb.int
      exact ⟨a1, _, vs, rfl, rfl, h1, by omega, by omega, lim_of (by rw [r1.length]; exact h.2), fun p hp => q p _ hp (by rw [flat_len, r1.length, Nat.mul_comm]; exact h.2) (r1.flat _)⟩
    · cases e
  · cases e
def isNil {α : Type} : List α → Bool
  | [] => true
  | _ => false
def mulT : D → D → Sto → Option D := fun a b _ => match a, b with
  | .tup i, .int k => if !isNil i && decide (2 ≤ k) && decide (k ≤ 1000) && decide (i.length ≤ 100) then some (.tup (List.replicate k.toNat i).flatten) else none
  | _, _ => none
theorem v2_mulT {c : Cf} : V2 c (rRepT c.K) mulT := by
  intro Ψ H S x y a b d Q s ra rb e q
  unfold mulT at e
  split at e
  · split at e
    · cases e
      rename_i h
      simp only [Bool.and_eq_true, decide_eq_true_eq] at h
      obtain ⟨a1, vs, rfl, h1, _, r1⟩ := ra.tup s
      cases rb.int
      refine ⟨a1, _, vs, rfl, rfl, h1, fun z => ?_, h.1.1.2, h.1.2, by rw [r1.length]; omega, fun p hp => finT s q (by
        rw [flat_len, r1.length]
        exact Nat.le_trans (Nat.mul_le_mul (show _ ≤ 1000 by omega) h.2) (by decide)) (r1.flat _) hp⟩
      have z' := r1.nil_iff.mp z
      subst z'
      exact absurd h.1.1.1 (by simp [isNil])
    · cases e
  · cases e
/-! ### comparisons -/
def eqD : D → D → Sto → Option D := fun a b _ => match a.py, b.py with
  | some x, some y => if min x.depth y.depth ≤ 60 then some (.bl (PyData.eqv x y)) else none
  | _, _ => none
def neD : D → D → Sto → Option D := fun a b _ => match a.py, b.py with
  | some x, some y => if min x.depth y.depth ≤ 60 then some (.bl (!PyData.eqv x y)) else none
  | _, _ => none
def rEqP (K : PySem.W.Frag) : R2 := fun x y H Q => ∃ d e, Dp K H x d ∧ Dp K H y e ∧ d.plain = true ∧ e.plain = true ∧ min d.depth e.depth ≤ 60 ∧ Q (.bl (PyData.eqv d e)) H
def rNeP (K : PySem.W.Frag) : R2 := fun x y H Q => ∃ d e, Dp K H x d ∧ Dp K H y e ∧ d.plain = true ∧ e.plain = true ∧ min d.depth e.depth ≤ 60 ∧ Q (.bl (!PyData.eqv d e)) H
theorem op_eqP {X : Cx} (hu : X.A.units + 64 < cLine) : OpR X (compareOp .Eq) (rEqP X.K) := by
  intro pins s σ H x y v u Q I rx ry h
  obtain ⟨d, e, hd, he, sd, se, m, q⟩ := h
  obtain ⟨as, r1⟩ := Dp.reads I d x v hd rx
  obtain ⟨bs, r2⟩ := Dp.reads I e y u he ry
  exact SeqAt.eq_plain r1 r2 sd se (by omega) ⟨.bl _, H, I, rfl, q⟩
theorem op_neP {X : Cx} (hu : X.A.units + 64 < cLine) : OpR X (compareOp .NotEq) (rNeP X.K) := by
  intro pins s σ H x y v u Q I rx ry h
  obtain ⟨d, e, hd, he, sd, se, m, q⟩ := h
  obtain ⟨as, r1⟩ := Dp.reads I d x v hd rx
  obtain ⟨bs, r2⟩ := Dp.reads I e y u he ry
  exact SeqAt.ne_plain r1 r2 sd se (by omega) ⟨.bl _, H, I, rfl, q⟩
theorem v2_eqD {c : Cf} : V2 c (rEqP c.K) eqD := by
  intro Ψ H S x y a b d Q s ra rb e q
  unfold eqD at e
  split at e
  · split at e
    · cases e
      rename_i h1 h2 h3
      exact ⟨_, _, ra.dp s h1, rb.dp s h2, D.plain h1, D.plain h2, h3, fin0 s q (.bl _)⟩
    · cases e
  · cases e
theorem v2_neD {c : Cf} : V2 c (rNeP c.K) neD := by
  intro Ψ H S x y a b d Q s ra rb e q
  unfold neD at e
  split at e
  · split at e
    · cases e
      rename_i h1 h2 h3
      exact ⟨_, _, ra.dp s h1, rb.dp s h2, D.plain h1, D.plain h2, h3, fin0 s q (.bl _)⟩
    · cases e
  · cases e
/-- x in a list, a tuple of data -/
def anyE (xs : List PyData) (d : PyData) : Bool := xs.any fun y => PyData.eqv y d
def inD (neg : Bool) : D → D → Sto → Option D := fun a b _ => match a.py, b.py with
  | some x, some (.list ys) => if min (PyData.depthAll ys) x.depth ≤ 60 then some (.bl (if neg then !anyE ys x else anyE ys x)) else none
  | some x, some (.tuple ys) => if min (PyData.depthAll ys) x.depth ≤ 60 then some (.bl (if neg then !anyE ys x else anyE ys x)) else none
  | _, _ => none
def rInP (K : PySem.W.Frag) (neg : Bool) : R2 := fun x y H Q => ∃ d e ys, Dp K H x d ∧ Dp K H y e ∧ (e = .list ys ∨ e = .tuple ys) ∧ d.plain = true ∧ PyData.plainAll ys = true ∧ min (PyData.depthAll ys) d.depth ≤ 60 ∧ Q (.bl (if neg then !anyE ys d else anyE ys d)) H
theorem op_inP {X : Cx} (hu : X.A.units + 64 < cLine) : OpR X (compareOp .In) (rInP X.K false) := by
  intro pins s σ H x y v u Q I rx ry h
  obtain ⟨d, e, ys, hd, he, ek, sd, se, m, q⟩ := h
  obtain ⟨as, r1⟩ := Dp.reads I d x v hd rx
  obtain ⟨bs, r2⟩ := Dp.reads I e y u he ry
  rcases ek with rfl | rfl
  · exact SeqAt.in_list_data r2 r1 se sd (by omega) ⟨.bl _, H, I, rfl, q⟩
  · exact SeqAt.in_tuple_data r2 r1 se sd (by omega) ⟨.bl _, H, I, rfl, q⟩
theorem op_notInP {X : Cx} (hu : X.A.units + 64 < cLine) : OpR X (compareOp .NotIn) (rInP X.K true) := by
  intro pins s σ H x y v u Q I rx ry h
  obtain ⟨d, e, ys, hd, he, ek, sd, se, m, q⟩ := h
  obtain ⟨as, r1⟩ := Dp.reads I d x v hd rx
  obtain ⟨bs, r2⟩ := Dp.reads I e y u he ry
  rcases ek with rfl | rfl
  · exact SeqAt.notIn_list_data r2 r1 se sd (by omega) ⟨.bl _, H, I, rfl, q⟩
  · exact SeqAt.notIn_tuple_data r2 r1 se sd (by omega) ⟨.bl _, H, I, rfl, q⟩
theorem v2_inD {c : Cf} {neg : Bool} : V2 c (rInP c.K neg) (inD neg) := by
  intro Ψ H S x y a b d Q s ra rb e q
  unfold inD at e
  split at e
  · split at e
    · cases e
      rename_i h1 h2 h3
      have p := D.plain h2
      simp only [PyData.plain] at p
      exact ⟨_, _, _, ra.dp s h1, rb.dp s h2, .inl rfl, D.plain h1, p, h3, fin0 s q (.bl _)⟩
    · cases e
  · split at e
    · cases e
      rename_i h1 h2 h3
      have p := D.plain h2
      simp only [PyData.plain] at p
      exact ⟨_, _, _, ra.dp s h1, rb.dp s h2, .inr rfl, D.plain h1, p, h3, fin0 s q (.bl _)⟩
    · cases e
  · cases e
/-- x in a text -/
def inS (neg : Bool) : D → D → Sto → Option D := fun a b _ => match a, b with
  | .str i, .str j => some (.bl (if neg then !!(Builtin.Str.occurrences j i 0 j.length 1).isEmpty else !(Builtin.Str.occurrences j i 0 j.length 1).isEmpty))
  | _, _ => none
theorem v2_inS {c : Cf} : V2 c (fun x y H Q => ∃ i j, x = .str i ∧ y = .str j ∧ Q (.bl (!(Builtin.Str.occurrences j i 0 j.length 1).isEmpty)) H) (inS false) := by
  intro Ψ H S x y a b d Q s ra rb e q
  unfold inS at e
  split at e
  · cases e
    cases ra.str; cases rb.str
    exact ⟨_, _, rfl, rfl, fin0 s q (.bl _)⟩
  · cases e
theorem v2_notInS {c : Cf} : V2 c (fun x y H Q => ∃ i j, x = .str i ∧ y = .str j ∧ Q (.bl (!(!(Builtin.Str.occurrences j i 0 j.length 1).isEmpty))) H) (inS true) := by
  intro Ψ H S x y a b d Q s ra rb e q
  unfold inS at e
  split at e
  · cases e
    cases ra.str; cases rb.str
    exact ⟨_, _, rfl, rfl, fin0 s q (.bl _)⟩
  · cases e
/-- is None -/
def isN (neg : Bool) : D → Sto → Option D := fun a _ => some (.bl (match a with
  | .non => !neg
  | _ => neg))
/-- a place of a list, a tuple -/
def ixD : D → D → Sto → Option D := fun a b S => match a, b with
  | .tup ds, .int i => atI ds i
  | .lst ds, .int i => atI ds i
  | .ref n, .int i => match S[n]? with
    | some (.lst ds) => atI ds i
    | _ => none
  | .scr ds, .int i => atI ds i
  | .str z, .int i => if z.length ≤ 100000 then (atI z.cps.toList i).map fun k => D.str ⟨#[k]⟩ else none
  | _, _ => none
theorem Reps.atI {c : Cf} {Ψ : Wd} {vs : List V} {ds : List D} {i : Int} {d : D} (r : Reps c Ψ vs ds) (h : L2.atI ds i = some d) : ∃ v, L2.atI vs i = some v ∧ Rep c Ψ v d := by
  unfold L2.atI at h ⊢
  rw [r.length]
  cases e : ixN ds.length i with
  | none => rw [e] at h; cases h
  | some j =>
    rw [e] at h
    exact r.get h
theorem v2_ixD {c : Cf} : V2 c (rIx c.K) ixD := by
  intro Ψ H S x y a b d Q s ra rb e q
  unfold ixD at e
  split at e
  · obtain ⟨a1, vs, rfl, h1, _, r1⟩ := ra.tup s
    cases rb.int
    obtain ⟨v, h2, r2⟩ := r1.atI e
    exact .inr (.inl ⟨a1, vs, _, v, rfl, rfl, h1, h2, fin0 s q r2⟩)
  · obtain ⟨a1, vs, rfl, h1, _, r1⟩ := ra.lst s
    cases rb.int
    obtain ⟨v, h2, r2⟩ := r1.atI e
    exact .inl ⟨a1, vs, _, v, rfl, rfl, SqL.of h1, h2, fin0 s q r2⟩
  · split at e
    · rename_i z
      obtain ⟨p, h0, rfl, vs, h1, _, _, r1⟩ := ra.ref s z
      cases rb.int
      obtain ⟨v, h2, r2⟩ := r1.atI e
      exact .inl ⟨p.1, vs, _, v, rfl, rfl, SqL.of h1, h2, fin0 s q r2⟩
    · cases e
  · obtain ⟨a1, vs, rfl, h1, _, r1⟩ := ra.scr s
    cases rb.int
    obtain ⟨v, h2, r2⟩ := r1.atI e
    exact .inl ⟨a1, vs, _, v, rfl, rfl, h1, h2, fin0 s q r2⟩
  · split at e
    · rename_i z i hz
      cases ra.str; cases rb.int
      cases hk : L2.atI z.cps.toList i with
      | none => rw [hk] at e; cases e
      | some k =>
        rw [hk] at e
        cases e
        exact .inr (.inr ⟨z, i, k, rfl, rfl, lim_of hz, hk, fin0 s q (.str _)⟩)
    · cases e
  · cases e
end Sm

/-! text: Sim4 -/
set_option Elab.async false
set_option linter.all false
set_option maxRecDepth 100000
set_option maxHeartbeats 1000000
namespace Sm
open PySem PySem.Spec PyProof.Rows L2

def asB (d : D) : M Bool := fun S => match d with
  | .bl b => .ok b S
  | _ => .stuck
def vl (ρ : Env) (i : Nat) : M D := fun S => match ρ[i]? with
  | some (.val d) => .ok d S
  | _ => .stuck
/-- .. or the frame's own list, to be read at once -/
def vb (ρ : Env) (i : Nat) : M D := fun S => match ρ[i]? with
  | some (.val d) => .ok d S
  | some (.own ds) => .ok (.lst ds) S
  | _ => .stuck
def iteM {α : Type} (b : Bool) (x y : M α) : M α := match b with
  | true => x
  | false => y
def andT (a b : M Bool) : M Bool := bd a fun x => iteM x b (rt false)
def orT (a b : M Bool) : M Bool := bd a fun x => iteM x (rt true) b
def notT (a : M Bool) : M Bool := bd a fun x => rt (!x)
def andV (a b : M D) : M D := bd a fun x => bd (asB x) fun t => iteM t b (rt (.bl false))
def orV (a b : M D) : M D := bd a fun x => bd (asB x) fun t => iteM t (rt (.bl true)) b
def notV (a : M D) : M D := bd a fun x => bd (asB x) fun t => rt (.bl (!t))
def boolT (a : M D) : M Bool := bd a asB

section
variable {c : Cf} {X : Cx} {W : L2.St → XK} {e a b : Expr} {es : List Expr} {pos p2 : Pos}
/-! ### from one judgement to another -/
theorem SE.sb {m : Env → M D} (h : SE c X W e m) : SB c X W e m := ⟨h.k, PE.imp h.p fun σ H Q ⟨Ψ, ρ, S, F, so, eo, q⟩ => ⟨Ψ, ρ, S, F, so, eo, q.mono fun d S' k Ψ' v H' x s r => k Ψ' v H' x s (.inl r)⟩⟩
theorem SN.se {m : Env → M (List D)} (h : SN c X W e m) : SE c X W e (fun ρ => bd (m ρ) fun ds => rt (.lst ds)) := by
  refine ⟨h.k, PE.imp h.p fun σ H Q ⟨Ψ, ρ, S, F, so, eo, q⟩ => ⟨Ψ, ρ, S, F, so, eo, q.bd.mono fun ds S' k Ψ' a vs H' x s h1 l r n f hn => ?_⟩⟩
  refine k (Ψ'.know a (.lst vs)) (.ref a) H' ⟨x.le.trans (Le.know n), x.dom, fun b o e => ?_, x.nmu, x.keep⟩ (s.know h1 n f) (.lst (show upd Ψ'.fz a _ a = _ from upd_same) l (r.mono (Le.know n)))
  by_cases z : b = a
  · subst z; exact .inr hn
  · have e' : upd Ψ'.fz a (.lst vs) b = some o := e
    rw [upd_ne z] at e'
    exact x.nphi b o e'
theorem Reps.bs {Ψ : Wd} {σ : L2.St} {ρ : Env} : ∀ {vs : List V} {ds : List D}, Reps c Ψ vs ds → RepBs c Ψ σ ρ vs ds
  | _, _, .nil => .nil
  | _, _, .cons h t => .cons (.inl h) (Reps.bs t)
theorem SA.sab {m : Env → M (List D)} (h : SA c X W es m) : SAB c X W es m := ⟨h.k, PA.imp h.p fun σ H Q ⟨Ψ, ρ, S, F, so, eo, q⟩ => ⟨Ψ, ρ, S, F, so, eo, q.mono fun ds S' k Ψ' vs H' x s r => k Ψ' vs H' x s r.bs⟩⟩
theorem SB.imp {m m' : Env → M D} (h : SB c X W e m) (k : ∀ ρ, m ρ = m' ρ) : SB c X W e m' := by
  have e : m = m' := funext k
  rw [← e]; exact h
theorem SE.imp {m m' : Env → M D} (h : SE c X W e m) (k : ∀ ρ, m ρ = m' ρ) : SE c X W e m' := by
  have e : m = m' := funext k
  rw [← e]; exact h
/-- what one way does not carry another one may -/
theorem SE.or {m m' : Env → M D} (h : SE c X W e m) (h' : SE c X W e m') : SE c X W e (fun ρ S => match m ρ S with
    | .stuck => m' ρ S
    | r => r) := by
  refine ⟨h.k, ⟨fun pins s σ H Q I q => ?_⟩⟩
  obtain ⟨Ψ, ρ, S, F, so, eo, q⟩ := q
  dsimp only at q
  cases z : m ρ S with
  | stuck => rw [z] at q; exact h'.p.run pins s σ H Q I ⟨Ψ, ρ, S, F, so, eo, q⟩
  | ok d S' => rw [z] at q; exact h.p.run pins s σ H Q I ⟨Ψ, ρ, S, F, so, eo, by rw [z]; exact q⟩
  | err k fs S' => rw [z] at q; exact h.p.run pins s σ H Q I ⟨Ψ, ρ, S, F, so, eo, by rw [z]; exact q⟩

/-! ### names and constants -/
theorem se_var (k : X.K = c.K) {i : Nat} {x : Str} (hN : X.N[i]? = some x := by rfl) (hv : Vis X.env.scope x := by first | exact Or.inl rfl | exact Or.inr (Or.inl rfl) | exact Or.inr (Or.inr rfl)) (hd : (x == ("__debug__" : Str)) = false := by decide)
    (hcd : (x == ("__classdict__" : Str)) = false := by decide) : SE c X W (.Name x pos) (fun ρ => vl ρ i) := by
  refine ⟨k, PE.imp (pe_var hN hv hd hcd) fun σ H Q ⟨Ψ, ρ, S, F, so, eo, q⟩ => ?_⟩
  unfold vl at q
  dsimp only at q
  split at q
  · rename_i d e
    obtain ⟨_, v, h1, h2⟩ := eo.slot i _ e
    exact ⟨v, h1, q Ψ v H (Ext.refl _ _) so h2⟩
  · exact q.elim
theorem sb_var (k : X.K = c.K) {i : Nat} {x : Str} (hN : X.N[i]? = some x := by rfl) (hv : Vis X.env.scope x := by first | exact Or.inl rfl | exact Or.inr (Or.inl rfl) | exact Or.inr (Or.inr rfl)) (hd : (x == ("__debug__" : Str)) = false := by decide)
    (hcd : (x == ("__classdict__" : Str)) = false := by decide) : SB c X W (.Name x pos) (fun ρ => vb ρ i) := by
  refine ⟨k, PE.imp (pe_var hN hv hd hcd) fun σ H Q ⟨Ψ, ρ, S, F, so, eo, q⟩ => ?_⟩
  unfold vb at q
  dsimp only at q
  split at q
  · rename_i d e
    obtain ⟨_, v, h1, h2⟩ := eo.slot i _ e
    exact ⟨v, h1, q Ψ v H (Ext.refl _ _) so (.inl h2)⟩
  · rename_i ds e
    obtain ⟨a, vs, _, h1, h2, _, h3⟩ := eo.slot i _ e
    exact ⟨_, h1, q Ψ _ H (Ext.refl _ _) so (.inr ⟨i, ds, rfl, e, h1⟩)⟩
  · exact q.elim
theorem se_const {t : TE} {v : V} {d : D} (k : X.K = c.K) (h : PE X e (tC v)) (r : ∀ Ψ, Rep c Ψ v d) : SE c X W e (fun _ => rt d) :=
  ⟨k, PE.imp h fun σ H Q ⟨Ψ, ρ, S, F, so, eo, q⟩ => q Ψ v H (Ext.refl _ _) so (r Ψ)⟩
theorem se_int (k : X.K = c.K) {i : Int} {j} : SE c X W (.Constant (.int i) j pos) (fun _ => rt (.int i)) := se_const (t := tC .non) k pe_int fun _ => .int _
theorem se_bl (k : X.K = c.K) {i : Bool} {j} : SE c X W (.Constant (.bool i) j pos) (fun _ => rt (.bl i)) := se_const (t := tC .non) k pe_bl fun _ => .bl _
theorem se_str (k : X.K = c.K) {i : Str} {j} : SE c X W (.Constant (.str i) j pos) (fun _ => rt (.str i)) := se_const (t := tC .non) k pe_str fun _ => .str _
theorem se_non (k : X.K = c.K) {j} : SE c X W (.Constant .none j pos) (fun _ => rt .non) := se_const (t := tC .non) k pe_non fun _ => .non
/-- a module's constant -/
theorem se_glob (k : X.K = c.K) {x : Str} {v : V} {u : Value} {d : D} (hg : Gl X x) (hm : X.mg x = some u) (r : RelV v u) (rd : ∀ Ψ, Rep c Ψ v d) (hd : (x == ("__debug__" : Str)) = false := by decide) : SE c X W (.Name x pos) (fun _ => rt d) :=
  se_const (t := tC .non) k (pe_glob hg hm r hd) rd
theorem se_bltn (k : X.K = c.K) {x : Str} {v : V} {u : Value} {d : D} (hg : Gl X x) (hm : X.mg x = none) (hv : bootBuiltins x = some u) (r : RelV v u) (rd : ∀ Ψ, Rep c Ψ v d) (hn : x ≠ "__name__" := by decide) (hd : (x == ("__debug__" : Str)) = false := by decide) : SE c X W (.Name x pos) (fun _ => rt d) :=
  se_const (t := tC .non) k (pe_bltn hg hm hv r hn hd) rd

/-! ### argument lists, displays -/
theorem sa_nil (k : X.K = c.K) : SA c X W [] (fun _ => rt []) := ⟨k, PA.imp pa_nil fun σ H Q ⟨Ψ, ρ, S, F, so, eo, q⟩ => q Ψ [] H (Ext.refl _ _) so .nil⟩
def consM {α : Type} (m : M α) (ms : M (List α)) : M (List α) := bd m fun x => bd ms fun xs => rt (x :: xs)
theorem sa_cons {m : Env → M D} {ms : Env → M (List D)} (h : SE c X W e m) (t : SA c X W es ms) (hs : starEach (e :: es) X.env = (false, eval e X.env) :: starEach es X.env := by rfl) : SA c X W (e :: es) (fun ρ => consM (m ρ) (ms ρ)) := by
  refine ⟨h.k, PA.imp (pa_cons h.p t.p hs) fun σ H Q ⟨Ψ, ρ, S, F, so, eo, q⟩ => ⟨Ψ, ρ, S, F, so, eo, q.bd.mono fun d S1 q1 Ψ1 x H1 e1 so1 r1 => ?_⟩⟩
  refine ⟨Ψ1, ρ, S1, F, so1, eo.ext e1, (q1.ext e1).bd.mono fun ds S2 q2 Ψ2 xs H2 e2 so2 r2 => ?_⟩
  exact q2 Ψ2 _ H2 (e1.trans e2) so2 (.cons (r1.mono e2.le) r2)
theorem sab_nil (k : X.K = c.K) : SAB c X W [] (fun _ => rt []) := (sa_nil k).sab
theorem RepBs.mono {Ψ Ψ' : Wd} {σ : L2.St} {ρ : Env} (x : Le Ψ Ψ') {vs : List V} {ds : List D} (h : RepBs c Ψ σ ρ vs ds) : RepBs c Ψ' σ ρ vs ds := by
  induction h with
  | nil => exact .nil
  | cons h t ih => exact .cons (h.mono x) ih
theorem sab_cons {m : Env → M D} {ms : Env → M (List D)} (h : SB c X W e m) (t : SAB c X W es ms) (hs : starEach (e :: es) X.env = (false, eval e X.env) :: starEach es X.env := by rfl) : SAB c X W (e :: es) (fun ρ => consM (m ρ) (ms ρ)) := by
  refine ⟨h.k, PA.imp (pa_cons h.p t.p hs) fun σ H Q ⟨Ψ, ρ, S, F, so, eo, q⟩ => ⟨Ψ, ρ, S, F, so, eo, q.bd.mono fun d S1 q1 Ψ1 x H1 e1 so1 r1 => ?_⟩⟩
  refine ⟨Ψ1, ρ, S1, F, so1, eo.ext e1, (q1.ext e1).bd.mono fun ds S2 q2 Ψ2 xs H2 e2 so2 r2 => ?_⟩
  exact q2 Ψ2 _ H2 (e1.trans e2) so2 (.cons (r1.mono e2.le) r2)
def tupM (m : M (List D)) : M D := bd m fun ds => fun S => if ds.length ≤ LIM then .ok (.tup ds) S else .stuck
def lstM (m : M (List D)) : M (List D) := bd m fun ds => fun S => if ds.length ≤ LIM then .ok ds S else .stuck
theorem se_tup {m : Env → M (List D)} {x1} (h : SA c X W es m) : SE c X W (.Tuple es x1 pos) (fun ρ => tupM (m ρ)) := by
  refine ⟨h.k, PE.imp (pe_tup h.p) fun σ H Q ⟨Ψ, ρ, S, F, so, eo, q⟩ => ⟨Ψ, ρ, S, F, so, eo, q.bd.mono fun ds S1 q1 Ψ1 vs H1 e1 so1 r1 => ?_⟩⟩
  split at q1
  · exact ⟨lim_of (by rw [r1.length]; assumption), fun p hp => finT so1 (fun Ψ' v H' e2 so2 r2 => q1 Ψ' v H' (e1.trans e2) so2 r2) (by rw [r1.length]; assumption) r1 hp⟩
  · exact q1.elim
theorem sn_lst {m : Env → M (List D)} (h : SA c X W es m) : SN c X W (.List es pos) (fun ρ => lstM (m ρ)) := by
  refine ⟨h.k, PE.imp (pe_lst h.p) fun σ H Q ⟨Ψ, ρ, S, F, so, eo, q⟩ => ⟨Ψ, ρ, S, F, so, eo, q.bd.mono fun ds S1 q1 Ψ1 vs H1 e1 so1 r1 => ?_⟩⟩
  split at q1
  · exact ⟨lim_of (by rw [r1.length]; assumption), fun p hp => q1 Ψ1 p vs _ (e1.trans (Ext.lay hp)) (so1.lay hp) upd_same (by rw [r1.length]; assumption) r1 (so1.phiNone hp) (so1.footNone hp) (e1.dom p hp)⟩
  · exact q1.elim

/-! ### two operands -/
theorem two_r {r : R2} {f : D → D → Sto → Option D} (hr : V2 c r f) {ma mb : Env → M D} {σ : L2.St} {H : Hp} {Q : VK} (h : rE c W (fun ρ => bd (ma ρ) fun x => bd (mb ρ) fun y => op2 f x y) σ H Q) : tOp r (rB c W ma) (rB c W mb) σ H Q := by
  obtain ⟨Ψ, ρ, S, F, so, eo, h⟩ := h
  refine ⟨Ψ, ρ, S, F, so, eo, h.bd.mono fun a S1 h1 Ψ1 x H1 e1 so1 ra => ?_⟩
  refine ⟨Ψ1, ρ, S1, F, so1, eo.ext e1, (h1.ext e1).bd.mono fun b S2 h2 Ψ2 y H2 e2 so2 rb => ?_⟩
  unfold op2 at h2
  have ee := eo.ext (e1.trans e2)
  split at h2
  · rename_i d e
    exact hr Ψ2 H2 S2 x y a b d Q so2 ((ra.mono e2.le).h ee) (rb.h ee) e fun Ψ' v H' e3 so3 r3 => h2 Ψ' v H' ((e1.trans e2).trans e3) so3 r3
  · exact h2.elim
theorem two_n {r : R2} {f : D → D → Sto → Option (List D)} (hr : V2N c r f) {ma mb : Env → M D} {σ : L2.St} {H : Hp} {Q : VK} (h : rN c W (fun ρ => bd (ma ρ) fun x => bd (mb ρ) fun y => op2N f x y) σ H Q) : tOp r (rB c W ma) (rB c W mb) σ H Q := by
  obtain ⟨Ψ, ρ, S, F, so, eo, h⟩ := h
  refine ⟨Ψ, ρ, S, F, so, eo, h.bd.mono fun a S1 h1 Ψ1 x H1 e1 so1 ra => ?_⟩
  refine ⟨Ψ1, ρ, S1, F, so1, eo.ext e1, (h1.ext e1).bd.mono fun b S2 h2 Ψ2 y H2 e2 so2 rb => ?_⟩
  unfold op2N at h2
  have ee := eo.ext (e1.trans e2)
  split at h2
  · rename_i d e
    exact hr Ψ2 H2 S2 x y a b d Q so2 ((ra.mono e2.le).h ee) (rb.h ee) e fun p vs hp l3 r3 => h2 Ψ2 p vs _ ((e1.trans e2).trans (Ext.lay hp)) (so2.lay hp) upd_same l3 r3 (so2.phiNone hp) (so2.footNone hp) ((e1.trans e2).dom p hp)
  · exact h2.elim
theorem se_op {op : Operator} {r : R2} {f : D → D → Sto → Option D} {ma mb : Env → M D} (ho : OpR X (binaryOp op) r) (hr : V2 c r f) (ha : SB c X W a ma) (hb : SB c X W b mb) :
    SE c X W (.BinOp a op b pos) (fun ρ => bd (ma ρ) fun x => bd (mb ρ) fun y => op2 f x y) := ⟨ha.k, PE.imp (pe_op ho ha.p hb.p) fun σ H Q h => two_r hr h⟩
theorem sn_op {op : Operator} {r : R2} {f : D → D → Sto → Option (List D)} {ma mb : Env → M D} (ho : OpR X (binaryOp op) r) (hr : V2N c r f) (ha : SB c X W a ma) (hb : SB c X W b mb) :
    SN c X W (.BinOp a op b pos) (fun ρ => bd (ma ρ) fun x => bd (mb ρ) fun y => op2N f x y) := ⟨ha.k, PE.imp (pe_op ho ha.p hb.p) fun σ H Q h => two_n hr h⟩
theorem se_cmp {op : CmpOp} {r : R2} {f : D → D → Sto → Option D} {ma mb : Env → M D} (ho : OpR X (compareOp op) r) (hr : V2 c r f) (ha : SB c X W a ma) (hb : SB c X W b mb) (hm : behindInMarks op b = false := by first | exact nomark _ (by decide) (by decide) | rfl) :
    SE c X W (.Compare a [op] [b] pos) (fun ρ => bd (ma ρ) fun x => bd (mb ρ) fun y => op2 f x y) := ⟨ha.k, PE.imp (pe_cmpR ho ha.p hb.p hm) fun σ H Q h => two_r hr h⟩
theorem st_cmp {op : CmpOp} {r : R2} {f : D → D → Sto → Option D} {ma mb : Env → M D} (ho : OpR X (compareOp op) r) (hr : V2 c r f) (ha : SB c X W a ma) (hb : SB c X W b mb) (hm : behindInMarks op b = false := by first | exact nomark _ (by decide) (by decide) | rfl) :
    ST c X W (.Compare a [op] [b] pos) (fun ρ => boolT (bd (ma ρ) fun x => bd (mb ρ) fun y => op2 f x y)) := by
  refine ⟨ha.k, PT.imp (pt_cmpR ho ha.p hb.p hm) fun σ H Q ⟨Ψ, ρ, S, F, so, eo, q⟩ => ?_⟩
  refine two_r hr ⟨Ψ, ρ, S, F, so, eo, q.bd.mono fun d S1 q1 Ψ1 x H1 e1 so1 r1 => ?_⟩
  unfold asB at q1
  split at q1
  · cases r1
    exact ⟨_, rfl, q1 Ψ1 H1 e1 so1⟩
  · exact q1.elim
/-- an expression that gives True or False, as a test -/
theorem st_val {m : Env → M D} (h : SE c X W e m) (he : ∀ whole, isTrue e X.env whole = (do let v ← whole; standAt e.pos; holding [v] (truthy v)) := by intro _; rfl) : ST c X W e (fun ρ => boolT (m ρ)) := by
  refine ⟨h.k, PT.imp (pt_val h.p he) fun σ H Q ⟨Ψ, ρ, S, F, so, eo, q⟩ => ⟨Ψ, ρ, S, F, so, eo, q.bd.mono fun d S1 q1 Ψ1 x H1 e1 so1 r1 => ?_⟩⟩
  unfold asB at q1
  split at q1
  · cases r1
    exact ⟨_, rfl, q1 Ψ1 H1 e1 so1⟩
  · exact q1.elim
/-- a < b < c -/
def chainM (f g : D → D → Sto → Option D) (x y z : M D) : M D := bd x fun a => bd y fun b => bd (op2 f a b) fun r => bd (asB r) fun t => iteM t (bd z fun d => op2 g b d) (rt (.bl false))
end

/-! ### and, or, not -/
structure SW (c : Cf) (X : Cx) (W : L2.St → XK) (e : Expr) (m : Env → M Bool) : Prop where
  k : X.K = c.K
  p : PW X e (rT c W m)
section
variable {c : Cf} {X : Cx} {W : L2.St → XK} {e a b : Expr} {rest : List Expr} {pos p2 : Pos} {ma mb mc : Env → M Bool} {va vb vc : Env → M D}
theorem SW.st (h : SW c X W e ma) : ST c X W e ma := ⟨h.k, PW.pt h.p⟩
theorem sw_and1 (h : ST c X W a ma) : SW c X W (.BoolOp .And [a] pos) ma := ⟨h.k, pw_and1 h.p⟩
theorem sw_or1 (h : ST c X W a ma) : SW c X W (.BoolOp .Or [a] pos) ma := ⟨h.k, pw_or1 h.p⟩
theorem sw_and (h : ST c X W a ma) (t : SW c X W (.BoolOp .And (b :: rest) pos) mb) : SW c X W (.BoolOp .And (a :: b :: rest) pos) (fun ρ => andT (ma ρ) (mb ρ)) := by
  refine ⟨h.k, PW.imp (pw_and h.p t.p) fun σ H Q ⟨Ψ, ρ, S, F, so, eo, q⟩ => ⟨Ψ, ρ, S, F, so, eo, q.bd.mono fun t S1 q1 Ψ1 H1 e1 so1 => ?_⟩⟩
  cases t with
  | true =>
    rw [if_pos rfl]
    exact ⟨Ψ1, ρ, S1, F, so1, eo.ext e1, (q1.ext e1).mono fun t2 S2 q2 Ψ2 H2 e2 so2 => q2 Ψ2 H2 (e1.trans e2) so2⟩
  | false =>
    rw [if_neg Bool.false_ne_true]
    exact q1 Ψ1 H1 e1 so1
theorem sw_or (h : ST c X W a ma) (t : SW c X W (.BoolOp .Or (b :: rest) pos) mb) : SW c X W (.BoolOp .Or (a :: b :: rest) pos) (fun ρ => orT (ma ρ) (mb ρ)) := by
  refine ⟨h.k, PW.imp (pw_or h.p t.p) fun σ H Q ⟨Ψ, ρ, S, F, so, eo, q⟩ => ⟨Ψ, ρ, S, F, so, eo, q.bd.mono fun t S1 q1 Ψ1 H1 e1 so1 => ?_⟩⟩
  cases t with
  | true =>
    rw [if_pos rfl]
    exact q1 Ψ1 H1 e1 so1
  | false =>
    rw [if_neg Bool.false_ne_true]
    exact ⟨Ψ1, ρ, S1, F, so1, eo.ext e1, (q1.ext e1).mono fun t2 S2 q2 Ψ2 H2 e2 so2 => q2 Ψ2 H2 (e1.trans e2) so2⟩
theorem st_not (h : ST c X W a ma) : ST c X W (.UnaryOp .Not a pos) (fun ρ => notT (ma ρ)) :=
  ⟨h.k, PT.imp (pt_not h.p) fun σ H Q ⟨Ψ, ρ, S, F, so, eo, q⟩ => ⟨Ψ, ρ, S, F, so, eo, q.bd.mono fun t S1 q1 Ψ1 H1 e1 so1 => q1 Ψ1 H1 e1 so1⟩⟩
theorem se_and1 {op} (h : SE c X W a va) : SE c X W (.BoolOp op [a] pos) va := ⟨h.k, pe_one h.p⟩
theorem se_and (h : SE c X W a va) (t : SE c X W (.BoolOp .And (b :: rest) pos) vb) : SE c X W (.BoolOp .And (a :: b :: rest) pos) (fun ρ => andV (va ρ) (vb ρ)) := by
  refine ⟨h.k, PE.imp (pe_and h.p t.p) fun σ H Q ⟨Ψ, ρ, S, F, so, eo, q⟩ => ⟨Ψ, ρ, S, F, so, eo, q.bd.mono fun d S1 q1 Ψ1 x H1 e1 so1 r1 => ?_⟩⟩
  have q2 := q1.bd
  unfold asB at q2
  split at q2
  · rename_i t
    cases r1
    refine ⟨_, rfl, ?_⟩
    cases t with
    | true =>
      rw [if_pos rfl]
      have q5 : Post c (W σ) Ψ H (vb ρ S1) _ := q2
      exact ⟨Ψ1, ρ, S1, F, so1, eo.ext e1, (Post.ext e1 q5).mono fun t2 S2 q3 Ψ2 v2 H2 e2 so2 r2 => q3 Ψ2 v2 H2 (e1.trans e2) so2 r2⟩
    | false =>
      rw [if_neg Bool.false_ne_true]
      exact q2 Ψ1 _ H1 e1 so1 (.bl _)
  · exact q2.elim
theorem se_or (h : SE c X W a va) (t : SE c X W (.BoolOp .Or (b :: rest) pos) vb) : SE c X W (.BoolOp .Or (a :: b :: rest) pos) (fun ρ => orV (va ρ) (vb ρ)) := by
  refine ⟨h.k, PE.imp (pe_or h.p t.p) fun σ H Q ⟨Ψ, ρ, S, F, so, eo, q⟩ => ⟨Ψ, ρ, S, F, so, eo, q.bd.mono fun d S1 q1 Ψ1 x H1 e1 so1 r1 => ?_⟩⟩
  have q2 := q1.bd
  unfold asB at q2
  split at q2
  · rename_i t
    cases r1
    refine ⟨_, rfl, ?_⟩
    cases t with
    | true =>
      rw [if_pos rfl]
      exact q2 Ψ1 _ H1 e1 so1 (.bl _)
    | false =>
      rw [if_neg Bool.false_ne_true]
      have q5 : Post c (W σ) Ψ H (vb ρ S1) _ := q2
      exact ⟨Ψ1, ρ, S1, F, so1, eo.ext e1, (Post.ext e1 q5).mono fun t2 S2 q3 Ψ2 v2 H2 e2 so2 r2 => q3 Ψ2 v2 H2 (e1.trans e2) so2 r2⟩
  · exact q2.elim
theorem se_not (h : SE c X W a va) : SE c X W (.UnaryOp .Not a pos) (fun ρ => notV (va ρ)) := by
  refine ⟨h.k, PE.imp (pe_not h.p) fun σ H Q ⟨Ψ, ρ, S, F, so, eo, q⟩ => ⟨Ψ, ρ, S, F, so, eo, q.bd.mono fun d S1 q1 Ψ1 x H1 e1 so1 r1 => ?_⟩⟩
  have q2 := q1.bd
  unfold asB at q2
  split at q2
  · cases r1
    exact ⟨_, rfl, q2 Ψ1 _ H1 e1 so1 (.bl _)⟩
  · exact q2.elim
theorem se_if {cd : Expr} {mt : Env → M Bool} (h : ST c X W cd mt) (ha : SE c X W a va) (hb : SE c X W b vb) : SE c X W (.IfExp cd a b pos) (fun ρ => bd (mt ρ) fun t => iteM t (va ρ) (vb ρ)) := by
  refine ⟨h.k, PE.imp (pe_ifExp h.p ha.p hb.p) fun σ H Q ⟨Ψ, ρ, S, F, so, eo, q⟩ => ⟨Ψ, ρ, S, F, so, eo, q.bd.mono fun t S1 q1 Ψ1 H1 e1 so1 => ?_⟩⟩
  cases t with
  | true =>
    rw [if_pos rfl]
    exact ⟨Ψ1, ρ, S1, F, so1, eo.ext e1, (Post.ext e1 q1).mono fun t2 S2 q3 Ψ2 v2 H2 e2 so2 r2 => q3 Ψ2 v2 H2 (e1.trans e2) so2 r2⟩
  | false =>
    rw [if_neg Bool.false_ne_true]
    exact ⟨Ψ1, ρ, S1, F, so1, eo.ext e1, (Post.ext e1 q1).mono fun t2 S2 q3 Ψ2 v2 H2 e2 so2 r2 => q3 Ψ2 v2 H2 (e1.trans e2) so2 r2⟩
/-- is None, is not None -/
theorem se_isN {m : Env → M D} {j pos'} (h : SB c X W a m) : SE c X W (.Compare a [.Is] [.Constant .none j pos'] pos) (fun ρ => bd (m ρ) fun x => op1 (isN false) x) := by
  refine ⟨h.k, PE.imp (pe_cmp (pc_isN h.p)) fun σ H Q ⟨Ψ, ρ, S, F, so, eo, q⟩ => ⟨Ψ, ρ, S, F, so, eo, q.bd.mono fun d S1 q1 Ψ1 x H1 e1 so1 r1 => ?_⟩⟩
  show Q (.bl (decide (x = .non))) H1
  rw [(r1.h (eo.ext e1)).isNon]
  refine q1 Ψ1 _ H1 e1 so1 ?_
  cases d <;> exact .bl _
theorem se_notN {m : Env → M D} {j pos'} (h : SB c X W a m) : SE c X W (.Compare a [.IsNot] [.Constant .none j pos'] pos) (fun ρ => bd (m ρ) fun x => op1 (isN true) x) := by
  refine ⟨h.k, PE.imp (pe_cmp (pc_notN h.p)) fun σ H Q ⟨Ψ, ρ, S, F, so, eo, q⟩ => ⟨Ψ, ρ, S, F, so, eo, q.bd.mono fun d S1 q1 Ψ1 x H1 e1 so1 r1 => ?_⟩⟩
  show Q (.bl (!decide (x = .non))) H1
  rw [(r1.h (eo.ext e1)).isNon]
  refine q1 Ψ1 _ H1 e1 so1 ?_
  cases d <;> exact .bl _
theorem st_isN {m : Env → M D} {j pos'} (h : SB c X W a m) : ST c X W (.Compare a [.Is] [.Constant .none j pos'] pos) (fun ρ => boolT (bd (m ρ) fun x => op1 (isN false) x)) := by
  refine ⟨h.k, PT.imp (pt_cmp (pc_isN h.p)) fun σ H Q ⟨Ψ, ρ, S, F, so, eo, q⟩ => ⟨Ψ, ρ, S, F, so, eo, q.bd.bd.mono fun d S1 q1 Ψ1 x H1 e1 so1 r1 => ?_⟩⟩
  refine ⟨_, rfl, ?_⟩
  rw [(r1.h (eo.ext e1)).isNon]
  have q2 := q1 Ψ1 H1 e1 so1
  cases d <;> exact q2
theorem st_notN {m : Env → M D} {j pos'} (h : SB c X W a m) : ST c X W (.Compare a [.IsNot] [.Constant .none j pos'] pos) (fun ρ => boolT (bd (m ρ) fun x => op1 (isN true) x)) := by
  refine ⟨h.k, PT.imp (pt_cmp (pc_notN h.p)) fun σ H Q ⟨Ψ, ρ, S, F, so, eo, q⟩ => ⟨Ψ, ρ, S, F, so, eo, q.bd.bd.mono fun d S1 q1 Ψ1 x H1 e1 so1 r1 => ?_⟩⟩
  refine ⟨_, rfl, ?_⟩
  rw [(r1.h (eo.ext e1)).isNon]
  have q2 := q1 Ψ1 H1 e1 so1
  cases d <;> exact q2
/-- a < b < d -/
theorem one_r {r : R2} {f : D → D → Sto → Option D} (hr : V2 c r f) {Ψ : Wd} {H : Hp} {S : Sto} {x y : V} {d1 d2 : D} {Wσ : XK} {R : D → Sto → Prop} {Q : VK} (so : StoOk c Ψ H S) (ra : RepH c Ψ H x d1) (rb : RepH c Ψ H y d2)
    (h : Post c Wσ Ψ H (op2 f d1 d2 S) R) (k : ∀ d Ψ' v H', R d S → Ext Ψ H Ψ' H' → StoOk c Ψ' H' S → Rep c Ψ' v d → Q v H') : r x y H Q := by
  unfold op2 at h
  split at h
  · exact hr Ψ H S x y d1 d2 _ Q so ra rb (by assumption) fun Ψ' v H' e s r => k _ Ψ' v H' h e s r
  · exact h.elim
theorem chain_r {r r' : R2} {f g : D → D → Sto → Option D} (hr : V2 c r f) (hr' : V2 c r' g) {σ : L2.St} {H : Hp} {Q : VK} (h : rE c W (fun ρ => chainM f g (va ρ) (vb ρ) (vc ρ)) σ H Q) : tChain r r' (rB c W va) (rB c W vb) (rB c W vc) σ H Q := by
  obtain ⟨Ψ, ρ, S, F, so, eo, h⟩ := h
  refine ⟨Ψ, ρ, S, F, so, eo, h.bd.mono fun a S1 h1 Ψ1 x H1 e1 so1 ra => ?_⟩
  refine ⟨Ψ1, ρ, S1, F, so1, eo.ext e1, (h1.ext e1).bd.mono fun b S2 h2 Ψ2 y H2 e2 so2 rb => ?_⟩
  have ee := eo.ext (e1.trans e2)
  refine one_r hr so2 ((ra.mono e2.le).h ee) (rb.h ee) ((Post.ext e2 h2).bd) fun d Ψ3 v H3 q e3 so3 r3 => ?_
  have q2 := q.bd
  unfold asB at q2
  split at q2
  · rename_i t
    cases r3
    refine ⟨_, rfl, ?_⟩
    have e13 := (e1.trans e2).trans e3
    cases t with
    | true =>
      rw [if_pos rfl]
      have q6 : Post c (W σ) Ψ2 H2 (bd (vc ρ) (fun d => op2 g b d) S2) _ := q2
      refine ⟨Ψ3, ρ, S2, F, so3, eo.ext e13, ((Post.ext e3 q6).bd).mono fun d4 S4 q4 Ψ4 z H4 e4 so4 r4 => ?_⟩
      have e14 := e13.trans e4
      exact one_r hr' so4 ((rb.mono (e3.le.trans e4.le)).h (eo.ext e14)) (r4.h (eo.ext e14)) (Post.ext e4 q4) fun d5 Ψ5 v5 H5 q5 e5 so5 r5 => q5 Ψ5 v5 H5 (e14.trans e5) so5 r5
    | false =>
      rw [if_neg Bool.false_ne_true]
      exact q2 Ψ3 _ H3 e13 so3 (.bl _)
  · exact q2.elim
theorem se_chain {op op' : CmpOp} {r r' : R2} {f g : D → D → Sto → Option D} {d : Expr} (ho : OpR X (compareOp op) r) (ho' : OpR X (compareOp op') r') (hr : V2 c r f) (hr' : V2 c r' g) (ha : SB c X W a va) (hb : SB c X W b vb) (hd : SB c X W d vc)
    (h1 : lastMarks [op, op'] [b, d] = false := by with_unfolding_all rfl) :
    SE c X W (.Compare a [op, op'] [b, d] pos) (fun ρ => chainM f g (va ρ) (vb ρ) (vc ρ)) := ⟨ha.k, PE.imp (pe_chain ho ho' ha.p hb.p hd.p h1) fun σ H Q h => chain_r hr hr' h⟩
end
end Sm

/-! text: Sim5 -/
set_option Elab.async false
set_option linter.all false
set_option maxRecDepth 100000
set_option maxHeartbeats 1000000
namespace Sm
open PySem PySem.Spec PyProof.Rows L2

/-! ### places, slices -/
section
variable {c : Cf} {X : Cx} {W : L2.St → XK} {e a b : Expr} {es : List Expr} {pos p2 : Pos}
theorem se_ix {ma mb : Env → M D} (ha : SB c X W a ma) (hb : SB c X W b mb) (hs : PlainIx b := by exact fun _ _ => rfl) : SE c X W (.Subscript a b pos) (fun ρ => bd (ma ρ) fun x => bd (mb ρ) fun y => op2 ixD x y) :=
  ⟨ha.k, PE.imp (pe_ix ix_seq ha.p hb.p hs) fun σ H Q h => two_r (ha.k ▸ v2_ixD) h⟩
/-- a part of a slice -/
def rO (c : Cf) (W : L2.St → XK) (m : Env → M (Option Int)) : TO := fun σ H Q => ∃ Ψ ρ S F, StoOk c Ψ H S ∧ EnvOk c Ψ σ ρ H F ∧
  Post c (W σ) Ψ H (m ρ S) fun o S' => ∀ Ψ' H', Ext Ψ H Ψ' H' → StoOk c Ψ' H' S' → Q o H'
structure SO (c : Cf) (X : Cx) (W : L2.St → XK) (e : Option Expr) (m : Env → M (Option Int)) : Prop where
  k : X.K = c.K
  p : PO X e (rO c W m)
theorem PO.imp {X : Cx} {e : Option Expr} {t u : TO} (h : PO X e t) (k : ∀ σ H Q, u σ H Q → t σ H Q) : PO X e u := by
  obtain ⟨r⟩ := h
  exact ⟨fun pins s σ H Q I q => r pins s σ H Q I (k _ _ _ q)⟩
theorem so_none (k : X.K = c.K) : SO c X W none (fun _ => rt none) := ⟨k, PO.imp po_none fun σ H Q ⟨Ψ, ρ, S, F, so, eo, q⟩ => q Ψ H (Ext.refl _ _) so⟩
def asI (d : D) : M (Option Int) := fun S => match d with
  | .int i => .ok (some i) S
  | _ => .stuck
theorem so_some {m : Env → M D} (h : SB c X W e m) : SO c X W (some e) (fun ρ => bd (m ρ) asI) := by
  refine ⟨h.k, PO.imp (po_some h.p) fun σ H Q ⟨Ψ, ρ, S, F, so, eo, q⟩ => ⟨Ψ, ρ, S, F, so, eo, q.bd.mono fun d S1 q1 Ψ1 x H1 e1 so1 r1 => ?_⟩⟩
  unfold asI at q1
  split at q1
  · cases (r1.h (eo.ext e1)).int
    exact ⟨_, rfl, q1 Ψ1 H1 e1 so1⟩
  · exact q1.elim
def cutL {α : Type} (xs : List α) (lo hi : Option Int) : List α := (xs.drop (HT.sIx xs.length 0 lo)).take (HT.sIx xs.length xs.length hi - HT.sIx xs.length 0 lo)
theorem Reps.cut {Ψ : Wd} {vs : List V} {ds : List D} (r : Reps c Ψ vs ds) (lo hi : Option Int) : Reps c Ψ (cutV vs lo hi) (cutL ds lo hi) := by
  unfold cutV cutL
  rw [r.length]
  exact (r.drop _).take _
/-- t[lo:hi] of a tuple -/
def sliceT (d : D) (lo hi : Option Int) : M D := fun S => match d with
  | .tup ds => .ok (.tup (cutL ds lo hi)) S
  | _ => .stuck
/-- .. of a list -/
def sliceL (d : D) (lo hi : Option Int) : M (List D) := fun S => match d with
  | .lst ds => .ok (cutL ds lo hi) S
  | .scr ds => .ok (cutL ds lo hi) S
  | _ => .stuck
theorem whole_cut {α : Type} {xs : List α} {lo hi : Option Int} (h : HT.sIx xs.length 0 lo = 0 ∧ HT.sIx xs.length xs.length hi = xs.length) : cutL xs lo hi = xs := by
  unfold cutL
  rw [h.1, h.2]
  simp
theorem se_sliceT {ma : Env → M D} {ml mh : Env → M (Option Int)} {lo hi : Option Expr} (ha : SB c X W a ma) (hl : SO c X W lo ml) (hh : SO c X W hi mh) :
    SE c X W (.Subscript a (.Slice lo hi none p2) pos) (fun ρ => bd (ma ρ) fun x => bd (ml ρ) fun i => bd (mh ρ) fun j => sliceT x i j) := by
  refine ⟨ha.k, PE.imp (pe_slice sl_tupA ha.p hl.p hh.p) fun σ H Q ⟨Ψ, ρ, S, F, so, eo, q⟩ => ⟨Ψ, ρ, S, F, so, eo, q.bd.mono fun d S1 q1 Ψ1 x H1 e1 so1 r1 => ?_⟩⟩
  refine ⟨Ψ1, ρ, S1, F, so1, eo.ext e1, (q1.ext e1).bd.mono fun i S2 q2 Ψ2 H2 e2 so2 => ?_⟩
  refine ⟨Ψ2, ρ, S2, F, so2, eo.ext (e1.trans e2), (Post.ext e2 q2).bd.mono fun j S3 q3 Ψ3 H3 e3 so3 => ?_⟩
  have e13 := (e1.trans e2).trans e3
  have rh := (r1.mono (e2.le.trans e3.le)).h (eo.ext e13)
  unfold sliceT at q3
  split at q3
  · obtain ⟨a1, vs, rfl, h1, l, r⟩ := rh.tup so3
    refine ⟨a1, vs, rfl, by rw [ha.k]; exact h1, fun z => ?_, fun z p hp => ?_⟩
    · rw [r.length] at z
      refine q3 Ψ3 _ H3 e13 so3 ?_
      rw [whole_cut z]
      exact rh.rep fun _ z => by cases z
    · exact finT so3 (fun Ψ' v H' e4 so4 r4 => q3 Ψ' v H' (e13.trans e4) so4 r4) (Nat.le_trans (cutV_length _ _ _) l) (r.cut _ _) hp
  · exact q3.elim
theorem sn_slice {ma : Env → M D} {ml mh : Env → M (Option Int)} {lo hi : Option Expr} (ha : SB c X W a ma) (hl : SO c X W lo ml) (hh : SO c X W hi mh) :
    SN c X W (.Subscript a (.Slice lo hi none p2) pos) (fun ρ => bd (ma ρ) fun x => bd (ml ρ) fun i => bd (mh ρ) fun j => sliceL x i j) := by
  refine ⟨ha.k, PE.imp (pe_slice sl_list ha.p hl.p hh.p) fun σ H Q ⟨Ψ, ρ, S, F, so, eo, q⟩ => ⟨Ψ, ρ, S, F, so, eo, q.bd.mono fun d S1 q1 Ψ1 x H1 e1 so1 r1 => ?_⟩⟩
  refine ⟨Ψ1, ρ, S1, F, so1, eo.ext e1, (q1.ext e1).bd.mono fun i S2 q2 Ψ2 H2 e2 so2 => ?_⟩
  refine ⟨Ψ2, ρ, S2, F, so2, eo.ext (e1.trans e2), (Post.ext e2 q2).bd.mono fun j S3 q3 Ψ3 H3 e3 so3 => ?_⟩
  have e13 := (e1.trans e2).trans e3
  have rh := (r1.mono (e2.le.trans e3.le)).h (eo.ext e13)
  unfold sliceL at q3
  split at q3
  · obtain ⟨a1, vs, rfl, h1, l, r⟩ := rh.lst so3
    exact ⟨a1, vs, rfl, SqL.of h1, fun p hp => q3 Ψ3 p _ _ (e13.trans (Ext.lay hp)) (so3.lay hp) upd_same (Nat.le_trans (cutV_length _ _ _) l) (r.cut _ _) (so3.phiNone hp) (so3.footNone hp) (e13.dom p hp)⟩
  · obtain ⟨a1, vs, rfl, h1, l, r⟩ := rh.scr so3
    exact ⟨a1, vs, rfl, by rw [ha.k]; exact h1, fun p hp => q3 Ψ3 p _ _ (e13.trans (Ext.lay hp)) (so3.lay hp) upd_same (Nat.le_trans (cutV_length _ _ _) l) (r.cut _ _) (so3.phiNone hp) (so3.footNone hp) (e13.dom p hp)⟩
  · exact q3.elim

/-! ### calls of built-ins -/
def RepHs (c : Cf) (Ψ : Wd) (H : Hp) (vs : List V) (ds : List D) : Prop := vs.length = ds.length ∧ ∀ (i : Nat) v d, vs[i]? = some v → ds[i]? = some d → RepH c Ψ H v d
theorem RepBs.hs {Ψ : Wd} {σ : L2.St} {ρ : Env} {H : Hp} {F : Nat → List Addr} {vs : List V} {ds : List D} (e : EnvOk c Ψ σ ρ H F) (r : RepBs c Ψ σ ρ vs ds) : RepHs c Ψ H vs ds := by
  induction r with
  | nil => exact ⟨rfl, fun i v d h => by simp at h⟩
  | cons h t ih =>
    refine ⟨by rw [List.length_cons, List.length_cons, ih.1], fun i v d h1 h2 => ?_⟩
    cases i with
    | zero => simp at h1 h2; subst h1 h2; exact h.h e
    | succ i => exact ih.2 i v d (by simpa using h1) (by simpa using h2)
theorem RepHs.one {Ψ : Wd} {H : Hp} {vs : List V} {d : D} (r : RepHs c Ψ H vs [d]) : ∃ v, vs = [v] ∧ RepH c Ψ H v d := by
  obtain ⟨l, h⟩ := r
  match vs, l with
  | [v], _ => exact ⟨v, rfl, h 0 v d rfl rfl⟩
theorem RepHs.two {Ψ : Wd} {H : Hp} {vs : List V} {d d' : D} (r : RepHs c Ψ H vs [d, d']) : ∃ v v', vs = [v, v'] ∧ RepH c Ψ H v d ∧ RepH c Ψ H v' d' := by
  obtain ⟨l, h⟩ := r
  match vs, l with
  | [v, v'], _ => exact ⟨v, v', rfl, h 0 v d rfl rfl, h 1 v' d' rfl rfl⟩
def VC (c : Cf) (r : List V → Hp → VK → Prop) (f : List D → Sto → Option D) : Prop := ∀ Ψ H S xs ds d Q, StoOk c Ψ H S → RepHs c Ψ H xs ds → f ds S = some d →
  (∀ Ψ' v H', Ext Ψ H Ψ' H' → StoOk c Ψ' H' S → Rep c Ψ' v d → Q v H') → r xs H Q
def VCN (c : Cf) (r : List V → Hp → VK → Prop) (f : List D → Sto → Option (List D)) : Prop := ∀ Ψ H S xs ds d Q, StoOk c Ψ H S → RepHs c Ψ H xs ds → f ds S = some d →
  (∀ p vs, H p = none → vs.length ≤ LIM → Reps c Ψ vs d → Q (.ref p) (upd H p (.lst vs))) → r xs H Q
def opC (f : List D → Sto → Option D) (ds : List D) : M D := fun S => match f ds S with
  | some d => .ok d S
  | none => .stuck
def opCN (f : List D → Sto → Option (List D)) (ds : List D) : M (List D) := fun S => match f ds S with
  | some d => .ok d S
  | none => .stuck
theorem VC.or {r r' : List V → Hp → VK → Prop} {f f' : List D → Sto → Option D} (h : VC c r f) (h' : VC c r' f') : VC c (fun x H Q => r x H Q ∨ r' x H Q) (fun a S => match f a S with | some d => some d | none => f' a S) := by
  intro Ψ H S x a d Q s ra e q
  dsimp only at e
  cases z : f a S with
  | some d' => rw [z] at e; cases e; exact .inl (h Ψ H S x a _ Q s ra z q)
  | none => rw [z] at e; exact .inr (h' Ψ H S x a _ Q s ra e q)
theorem call_r {r : List V → Hp → VK → Prop} {f : List D → Sto → Option D} (hr : VC c r f) {m : Env → M (List D)} {σ : L2.St} {H : Hp} {Q : VK} (h : rE c W (fun ρ => bd (m ρ) fun x => opC f x) σ H Q) : tCB r (rAB c W m) σ H Q := by
  obtain ⟨Ψ, ρ, S, F, so, eo, h⟩ := h
  refine ⟨Ψ, ρ, S, F, so, eo, h.bd.mono fun ds S1 h1 Ψ1 vs H1 e1 so1 ra => ?_⟩
  unfold opC at h1
  split at h1
  · exact hr Ψ1 H1 S1 vs ds _ Q so1 (ra.hs (eo.ext e1)) (by assumption) fun Ψ' v H' e3 so3 r3 => h1 Ψ' v H' (e1.trans e3) so3 r3
  · exact h1.elim
theorem call_n {r : List V → Hp → VK → Prop} {f : List D → Sto → Option (List D)} (hr : VCN c r f) {m : Env → M (List D)} {σ : L2.St} {H : Hp} {Q : VK} (h : rN c W (fun ρ => bd (m ρ) fun x => opCN f x) σ H Q) : tCB r (rAB c W m) σ H Q := by
  obtain ⟨Ψ, ρ, S, F, so, eo, h⟩ := h
  refine ⟨Ψ, ρ, S, F, so, eo, h.bd.mono fun ds S1 h1 Ψ1 vs H1 e1 so1 ra => ?_⟩
  unfold opCN at h1
  split at h1
  · exact hr Ψ1 H1 S1 vs ds _ Q so1 (ra.hs (eo.ext e1)) (by assumption) fun p ws hp l3 r3 => h1 Ψ1 p ws _ (e1.trans (Ext.lay hp)) (so1.lay hp) upd_same l3 r3 (so1.phiNone hp) (so1.footNone hp) (e1.dom p hp)
  · exact h1.elim
variable {x : Str} {id T : String} {r : List V → Hp → VK → Prop} {p : Pos} {m : Env → M (List D)}
theorem se_callB {f : List D → Sto → Option D} (hc : CallR X (.builtin id) r) (hr : VC c r f) (ha : SAB c X W (e :: es) m) (hm : X.mg x = none) (hv : bootBuiltins x = some (.builtin id)) (hg : Gl X x := by rfl) (hn : x ≠ "__name__" := by decide) (hdb : (x == ("__debug__" : Str)) = false := by decide)
    (he : starEach (e :: es) X.env = (false, eval e X.env) :: starEach es X.env := by rfl) (hpl : (backTo pos (starEach es X.env)).any (·.1) = false := by rfl) :
    SE c X W (.Call (.Name x p) (e :: es) [] pos) (fun ρ => bd (m ρ) fun ds => opC f ds) := ⟨ha.k, PE.imp (pe_callB hc hg hm hv ha.p hn hdb he hpl) fun σ H Q h => call_r hr h⟩
theorem se_callTy {f : List D → Sto → Option D} (hc : CallR X (.type T) r) (hr : VC c r f) (ha : SAB c X W (e :: es) m) (hm : X.mg x = none) (hv : bootBuiltins x = some (.type T)) (hg : Gl X x := by rfl) (hn : x ≠ "__name__" := by decide) (hdb : (x == ("__debug__" : Str)) = false := by decide)
    (he : starEach (e :: es) X.env = (false, eval e X.env) :: starEach es X.env := by rfl) (hpl : (backTo pos (starEach es X.env)).any (·.1) = false := by rfl) :
    SE c X W (.Call (.Name x p) (e :: es) [] pos) (fun ρ => bd (m ρ) fun ds => opC f ds) := ⟨ha.k, PE.imp (pe_callTy hc hg hm hv ha.p hn hdb he hpl) fun σ H Q h => call_r hr h⟩
theorem sn_callTy {f : List D → Sto → Option (List D)} (hc : CallR X (.type T) r) (hr : VCN c r f) (ha : SAB c X W (e :: es) m) (hm : X.mg x = none) (hv : bootBuiltins x = some (.type T)) (hg : Gl X x := by rfl) (hn : x ≠ "__name__" := by decide) (hdb : (x == ("__debug__" : Str)) = false := by decide)
    (he : starEach (e :: es) X.env = (false, eval e X.env) :: starEach es X.env := by rfl) (hpl : (backTo pos (starEach es X.env)).any (·.1) = false := by rfl) :
    SN c X W (.Call (.Name x p) (e :: es) [] pos) (fun ρ => bd (m ρ) fun ds => opCN f ds) := ⟨ha.k, PE.imp (pe_callTy hc hg hm hv ha.p hn hdb he hpl) fun σ H Q h => call_n hr h⟩
end

section
variable {c : Cf}
/-- len -/
def lenD : List D → Sto → Option D := fun ds S => match ds with
  | [.lst xs] => some (.int xs.length)
  | [.tup xs] => some (.int xs.length)
  | [.scr xs] => some (.int xs.length)
  | [.str z] => if z.length ≤ LIM then some (.int z.length) else none
  | [.dct ks] => some (.int ks.length)
  | [.ref n] => match S[n]? with
    | some (.lst xs) => some (.int xs.length)
    | _ => none
  | _ => none
theorem call_lenA {X : Cx} : CallR X (.builtin "len") (fun xs H Q => (∃ p ys, xs = [.ref p] ∧ (SqL X.K H p ys ∨ SqT X.K H p ys) ∧ Q (.int ys.length) H) ∨ ((∃ z, xs = [.str z] ∧ z.length ≤ sizeLine ∧ Q (.int z.length) H) ∨ ∃ d kvs, xs = [.ref d] ∧ H d = some (.dK kvs) ∧ Q (.int kvs.length) H)) :=
  CallR.or call_len_seq (CallR.or call_len_str (by
    intro pins s σ H xs us Q I r h
    obtain ⟨d, kvs, rfl, hd, q⟩ := h
    exact call_lenD pins s σ H [.ref d] us Q I r ⟨d, kvs, rfl, hd, q⟩))
theorem vc_len : VC c (fun xs H Q => (∃ p ys, xs = [.ref p] ∧ (SqL c.K H p ys ∨ SqT c.K H p ys) ∧ Q (.int ys.length) H) ∨ ((∃ z, xs = [.str z] ∧ z.length ≤ sizeLine ∧ Q (.int z.length) H) ∨ ∃ d kvs, xs = [.ref d] ∧ H d = some (.dK kvs) ∧ Q (.int kvs.length) H)) lenD := by
  intro Ψ H S xs ds d Q s r e q
  unfold lenD at e
  split at e
  · cases e
    obtain ⟨v, rfl, r1⟩ := r.one
    obtain ⟨a, vs, rfl, h1, l2, r2⟩ := r1.lst s
    refine .inl ⟨a, vs, rfl, .inl (SqL.of h1), fin0 s q ?_⟩
    rw [r2.length]; exact .int _
  · cases e
    obtain ⟨v, rfl, r1⟩ := r.one
    obtain ⟨a, vs, rfl, h1, l2, r2⟩ := r1.tup s
    refine .inl ⟨a, vs, rfl, .inr h1, fin0 s q ?_⟩
    rw [r2.length]; exact .int _
  · cases e
    obtain ⟨v, rfl, r1⟩ := r.one
    obtain ⟨a, vs, rfl, h1, l2, r2⟩ := r1.scr s
    refine .inl ⟨a, vs, rfl, .inl h1, fin0 s q ?_⟩
    rw [r2.length]; exact .int _
  · split at e
    · cases e
      obtain ⟨v, rfl, r1⟩ := r.one
      cases r1.str
      exact .inr (.inl ⟨_, rfl, lim_of (by assumption), fin0 s q (.int _)⟩)
    · cases e
  · cases e
    obtain ⟨v, rfl, r1⟩ := r.one
    cases r1.rep (fun _ z => by cases z) with
    | dct h0 e0 r0 =>
      refine .inr (.inr ⟨_, _, rfl, s.phi _ _ h0, fin0 s q ?_⟩)
      have := congrArg List.length e0
      rw [List.length_map, List.length_map] at this
      rw [this]; exact .int _
  · split at e
    · cases e
      rename_i z
      obtain ⟨v, rfl, r1⟩ := r.one
      obtain ⟨p, h0, rfl, vs, h1, _, _, r2⟩ := r1.ref s z
      refine .inl ⟨p.1, vs, rfl, .inl (SqL.of h1), fin0 s q ?_⟩
      rw [r2.length]; exact .int _
    · cases e
  · cases e
/-- all, any of truth values -/
def bools : List D → Option (List Bool)
  | [] => some []
  | .bl b :: r => match bools r with
    | some bs => some (b :: bs)
    | none => none
  | _ => none
theorem Reps.bools {Ψ : Wd} : ∀ {vs : List V} {ds : List D} {bs : List Bool}, Reps c Ψ vs ds → Sm.bools ds = some bs → vs = bs.map V.bl
  | _, _, _, .nil, h => by simp only [Sm.bools, Option.some.injEq] at h; subst h; rfl
  | _, _, _, .cons h t, e => by
    cases h with
    | bl b =>
      unfold Sm.bools at e
      split at e
      · cases e
        rw [Reps.bools t (by assumption)]; rfl
      · cases e
    | _ => simp [Sm.bools] at e
def allD : List D → Sto → Option D := fun ds _ => match ds with
  | [.lst xs] => match bools xs with
    | some bs => some (.bl (bs.all id))
    | none => none
  | _ => none
def anyD : List D → Sto → Option D := fun ds _ => match ds with
  | [.lst xs] => match bools xs with
    | some bs => some (.bl (bs.any id))
    | none => none
  | _ => none
theorem vc_all : VC c (rAll c.K) allD := by
  intro Ψ H S xs ds d Q s r e q
  unfold allD at e
  split at e
  · split at e
    · cases e
      obtain ⟨v, rfl, r1⟩ := r.one
      obtain ⟨a, vs, rfl, h1, l2, r2⟩ := r1.lst s
      cases r2.bools (by assumption)
      exact ⟨a, _, rfl, SqL.of h1, fin0 s q (.bl _)⟩
    · cases e
  · cases e
theorem vc_any : VC c (rAny c.K) anyD := by
  intro Ψ H S xs ds d Q s r e q
  unfold anyD at e
  split at e
  · split at e
    · cases e
      obtain ⟨v, rfl, r1⟩ := r.one
      obtain ⟨a, vs, rfl, h1, l2, r2⟩ := r1.lst s
      cases r2.bools (by assumption)
      exact ⟨a, _, rfl, SqL.of h1, fin0 s q (.bl _)⟩
    · cases e
  · cases e
/-- tuple(x), list(x) -/
def tupleD : List D → Sto → Option D := fun ds _ => match ds with
  | [.lst xs] => some (.tup xs)
  | [.tup xs] => some (.tup xs)
  | _ => none
theorem vc_tuple : VC c (fun xs H Q => ∃ p ys, xs = [.ref p] ∧ ((SqL c.K H p ys ∧ ∀ l, H l = none → Q (.ref l) (upd H l (.tup ys))) ∨ (SqT c.K H p ys ∧ Q (.ref p) H))) tupleD := by
  intro Ψ H S xs ds d Q s r e q
  unfold tupleD at e
  split at e
  · cases e
    obtain ⟨v, rfl, r1⟩ := r.one
    obtain ⟨a, vs, rfl, h1, l2, r2⟩ := r1.lst s
    exact ⟨a, vs, rfl, .inl ⟨SqL.of h1, fun l hl => finT s q l2 r2 hl⟩⟩
  · cases e
    obtain ⟨v, rfl, r1⟩ := r.one
    obtain ⟨a, vs, rfl, h1, l2, r2⟩ := r1.tup s
    exact ⟨a, vs, rfl, .inr ⟨h1, fin0 s q (r1.rep fun _ z => by cases z)⟩⟩
  · cases e
def listD : List D → Sto → Option (List D) := fun ds _ => match ds with
  | [.lst xs] => some xs
  | [.tup xs] => some xs
  | _ => none
theorem vc_list : VCN c (fun xs H Q => ∃ p ys, xs = [.ref p] ∧ (SqL c.K H p ys ∨ SqT c.K H p ys) ∧ ∀ l, H l = none → Q (.ref l) (upd H l (.lst ys))) listD := by
  intro Ψ H S xs ds d Q s r e q
  unfold listD at e
  split at e
  · cases e
    obtain ⟨v, rfl, r1⟩ := r.one
    obtain ⟨a, vs, rfl, h1, l2, r2⟩ := r1.lst s
    exact ⟨a, vs, rfl, .inl (SqL.of h1), fun l hl => q l vs hl l2 r2⟩
  · cases e
    obtain ⟨v, rfl, r1⟩ := r.one
    obtain ⟨a, vs, rfl, h1, l2, r2⟩ := r1.tup s
    exact ⟨a, vs, rfl, .inr h1, fun l hl => q l vs hl l2 r2⟩
  · cases e
/-- int(x), abs(x), max, min of two -/
def intD : List D → Sto → Option D := fun ds _ => match ds with
  | [.int i] => some (.int i)
  | [.bl k] => some (.int (if k then 1 else 0))
  | _ => none
theorem vc_int : VC c (fun xs H Q => (∃ i, xs = [.int i] ∧ Q (.int i) H) ∨ ∃ k, xs = [.bl k] ∧ Q (.int (if k then 1 else 0)) H) intD := by
  intro Ψ H S xs ds d Q s r e q
  unfold intD at e
  split at e
  · cases e
    obtain ⟨v, rfl, r1⟩ := r.one
    cases r1.int
    exact .inl ⟨_, rfl, fin0 s q (.int _)⟩
  · cases e
    obtain ⟨v, rfl, r1⟩ := r.one
    cases r1.bl
    exact .inr ⟨_, rfl, fin0 s q (.int _)⟩
  · cases e
def absD : List D → Sto → Option D := fun ds _ => match ds with
  | [.int i] => some (.int (if i < 0 then -i else i))
  | _ => none
theorem vc_abs : VC c (fun xs H Q => ∃ i, xs = [.int i] ∧ Q (.int (if i < 0 then -i else i)) H) absD := by
  intro Ψ H S xs ds d Q s r e q
  unfold absD at e
  split at e
  · cases e
    obtain ⟨v, rfl, r1⟩ := r.one
    cases r1.int
    exact ⟨_, rfl, fin0 s q (.int _)⟩
  · cases e
def max2D : List D → Sto → Option D := fun ds _ => match ds with
  | [.int i, .int j] => some (.int (if j > i then j else i))
  | _ => none
def min2D : List D → Sto → Option D := fun ds _ => match ds with
  | [.int i, .int j] => some (.int (if j < i then j else i))
  | _ => none
theorem vc_max2 : VC c (fun xs H Q => ∃ i j, xs = [.int i, .int j] ∧ Q (.int (if j > i then j else i)) H) max2D := by
  intro Ψ H S xs ds d Q s r e q
  unfold max2D at e
  split at e
  · cases e
    obtain ⟨v, v', rfl, r1, r2⟩ := r.two
    cases r1.int
    cases r2.int
    exact ⟨_, _, rfl, fin0 s q (.int _)⟩
  · cases e
theorem vc_min2 : VC c (fun xs H Q => ∃ i j, xs = [.int i, .int j] ∧ Q (.int (if j < i then j else i)) H) min2D := by
  intro Ψ H S xs ds d Q s r e q
  unfold min2D at e
  split at e
  · cases e
    obtain ⟨v, v', rfl, r1, r2⟩ := r.two
    cases r1.int
    cases r2.int
    exact ⟨_, _, rfl, fin0 s q (.int _)⟩
  · cases e
end

/-! ### calls of the program's own defs -/
section
variable {c : Cf} {X : Cx} {W : L2.St → XK} {e a b o : Expr} {es : List Expr} {pos p2 p apos : Pos} {x : Str}
def callM (n : Nat) (m : List D → M D) (ds : List D) : M D := fun S => match Nat.decEq ds.length n with
  | .isTrue _ => m ds S
  | .isFalse _ => .stuck
def PromF (c : Cf) (n : Nat) (m : List D → M D) : Sp := fun vs H Q E => ∃ Ψ S ds, StoOk c Ψ H S ∧ Reps c Ψ vs ds ∧ ds.length = n ∧ Post c E Ψ H (m ds S) fun d S' => ∀ Ψ' v H', Ext Ψ H Ψ' H' → StoOk c Ψ' H' S' → Rep c Ψ' v d → Q v H'
/-- a def that keeps the promise m -/
structure Fn (c : Cf) (P : Program) (w : World) (mg : Str → Option Value) (base : Heap) (k : Nat) (f : Addr) (n : Nat) (m : List D → M D) : Prop where
  r : FnR P w c.K mg base (L2.CX P w) k f (PromF c n m)
  kp : PySem.W.keepIn c.K (.ref f) = true
theorem PromF.len {n : Nat} {m : List D → M D} {vs : List V} {H : Hp} {Q : VK} {E : XK} (h : PromF c n m vs H Q E) : vs.length = n := by
  obtain ⟨Ψ, S, ds, so, r, l, _⟩ := h
  rw [r.length, l]
theorem prom_of {n : Nat} {m : List D → M D} {Ψ : Wd} {H : Hp} {S : Sto} {vs : List V} {ds : List D} {E : XK} {R : D → Sto → Prop} {Q : VK} (so : StoOk c Ψ H S) (r : Reps c Ψ vs ds) (h : Post c E Ψ H (callM n m ds S) R)
    (k : ∀ d S' Ψ' v H', R d S' → Ext Ψ H Ψ' H' → StoOk c Ψ' H' S' → Rep c Ψ' v d → Q v H') : PromF c n m vs H Q E := by
  unfold callM at h
  split at h
  · exact ⟨Ψ, S, ds, so, r, by assumption, h.mono fun d S' q Ψ' v H' e s r => k d S' Ψ' v H' q e s r⟩
  · exact h.elim
/-- an exception of a callee reaches what is wanted here -/
def wx (W : L2.St → XK) : WX := fun cls d σ H => W σ cls d H
theorem pe_callFn {k n : Nat} {f : Addr} {m : List D → M D} {t : TA} (F : Fn c X.prog X.w X.mg X.base k f n m) (hk : X.K = c.K) (hr : Room k X.A) (hm : X.mg x = some (.ref f)) (tk : Takes X (wx W)) (ha : PA X (e :: es) t)
    (hg : Gl X x := by rfl) (hdb : (x == ("__debug__" : Str)) = false := by decide) (he : starEach (e :: es) X.env = (false, eval e X.env) :: starEach es X.env := by rfl) (hpl : (backTo pos (starEach es X.env)).any (·.1) = false := by rfl) :
    PE X (.Call (.Name x p) (e :: es) [] pos) (fun σ H Q => t σ H fun vs H1 => PromF c n m vs H1 Q (W σ)) := by
  refine ⟨fun pins s σ H Q I h => ?_⟩
  refine wpAny_Call_Name_kw (ld_glob I hg hm ?_ hdb)
  refine PySem.W.callWith_K (h₀ := X.base) I.ok.mod.kin (by rw [hk]; exact F.kp) (thn (ha.run pos pins s σ H _ I h) fun us s1 ⟨vs, H1, I1, r, q⟩ => ⟨I1.kIn, ?_⟩) he hpl
  refine wpAny_call (codeAny_mono (F.r X.A X.stack s1 H1 us vs Q (W σ) hr (hk ▸ I1.env0) r q) fun r s' hq => ?_)
  cases r with
  | error e => exact tk _ _ (XE.of_call I1 (fun _ _ _ h => h) hq)
  | ok fl =>
    cases fl with
    | ret u => exact I1.after hq
    | next => exact False.elim hq
    | brk => exact False.elim hq
    | cont => exact False.elim hq
theorem se_call {k n : Nat} {f : Addr} {m : List D → M D} {ma : Env → M (List D)} (F : Fn c X.prog X.w X.mg X.base k f n m) (hr : Room k X.A) (hm : X.mg x = some (.ref f)) (tk : Takes X (wx W)) (ha : SA c X W (e :: es) ma)
    (hg : Gl X x := by rfl) (hdb : (x == ("__debug__" : Str)) = false := by decide) (he : starEach (e :: es) X.env = (false, eval e X.env) :: starEach es X.env := by rfl) (hpl : (backTo pos (starEach es X.env)).any (·.1) = false := by rfl) :
    SE c X W (.Call (.Name x p) (e :: es) [] pos) (fun ρ => bd (ma ρ) fun ds => callM n m ds) := by
  refine ⟨ha.k, PE.imp (pe_callFn F ha.k hr hm tk ha.p hg hdb he hpl) fun σ H Q ⟨Ψ, ρ, S, F, so, eo, q⟩ => ⟨Ψ, ρ, S, F, so, eo, q.bd.mono fun ds S1 q1 Ψ1 vs H1 e1 so1 r1 => ?_⟩⟩
  exact prom_of so1 r1 (q1.ext e1) fun d S' Ψ' v H' q e2 s2 r2 => q Ψ' v H' (e1.trans e2) s2 r2
theorem se_call0 {k : Nat} {f : Addr} {m : List D → M D} (F : Fn c X.prog X.w X.mg X.base k f 0 m) (hk : X.K = c.K) (hr : Room k X.A) (hm : X.mg x = some (.ref f)) (tk : Takes X (wx W))
    (hg : Gl X x := by rfl) (hdb : (x == ("__debug__" : Str)) = false := by decide) : SE c X W (.Call (.Name x p) [] [] pos) (fun _ => callM 0 m []) := by
  refine ⟨hk, ⟨fun pins s σ H Q I h => ?_⟩⟩
  obtain ⟨Ψ, ρ, S, F', so, eo, q⟩ := h
  refine wpAny_Call_Name_kw (ld_glob I hg hm ?_ hdb)
  refine PySem.W.callWith_K0 I.kIn (by rw [hk]; exact F.kp) ?_
  refine wpAny_call (codeAny_mono (F.r X.A X.stack s H [] [] Q (W σ) hr (hk ▸ I.env0) .nil (prom_of so .nil q fun d S' Ψ' v H' q e2 s2 r2 => q Ψ' v H' e2 s2 r2)) fun r s' hq => ?_)
  cases r with
  | error e => exact tk _ _ (XE.of_call I (fun _ _ _ h => h) hq)
  | ok fl =>
    cases fl with
    | ret u => exact I.after hq
    | next => exact False.elim hq
    | brk => exact False.elim hq
    | cont => exact False.elim hq
end
end Sm

/-! text: Sim6 -/
set_option Elab.async false
set_option linter.all false
set_option maxRecDepth 100000
set_option maxHeartbeats 1000000
namespace Sm
open PySem PySem.Spec PyProof.Rows L2

/-! ### targets -/
inductive Tg where
  | one (i : Nat)
  | tup (is : List Nat)
def Tg.is : Tg → List Nat
  | .one i => [i]
  | .tup is => is
def setsS : L2.St → List Nat → List V → L2.St
  | σ, i :: is, v :: vs => setsS (σ.set i (some v)) is vs
  | σ, _, _ => σ
def setsE : Env → List Nat → List D → Env
  | ρ, i :: is, d :: ds => setsE (ρ.set i (.val d)) is ds
  | ρ, _, _ => ρ
def gTg (K : PySem.W.Frag) : Tg → TG
  | .one i => gName i
  | .tup is => fun v σ H Q => ∃ a xs, v = .ref a ∧ SqT K H a xs ∧ xs.length = is.length ∧ Q (setsS σ is xs) H
structure SG (X : Cx) (tg : Expr) (t : Tg) : Prop where
  p : PG X tg (gTg X.K t)
structure SGs (X : Cx) (es : List Expr) (is : List Nat) : Prop where
  p : PGs X es (fun vs σ H Q => vs.length = is.length ∧ Q (setsS σ is vs) H)
section
variable {X : Cx} {pos : Pos}
theorem sg_one {i : Nat} {x : Str} (hN : X.N.Nodup) (hi : X.N[i]? = some x := by rfl) (hx : Loc X.env.scope x := by first | exact Or.inl rfl | exact Or.inr rfl) (hf : X.fn x = true ∨ X.env.scope.names.lookup x = some .local := by first | exact .inl rfl | exact .inr rfl) : SG X (.Name x pos) (.one i) := ⟨pg_name hN hi hx hf⟩
theorem PGs.imp {es : List Expr} {t u : TGs} (h : PGs X es t) (k : ∀ vs σ H Q, u vs σ H Q → t vs σ H Q) : PGs X es u := ⟨fun pins s σ H vs us Q I r q => h.run pins s σ H vs us Q I r (k _ _ _ _ q)⟩
theorem PG.imp {e : Expr} {t u : TG} (h : PG X e t) (k : ∀ v σ H Q, u v σ H Q → t v σ H Q) : PG X e u := ⟨fun pins s σ H v uu Q I r q => h.run pins s σ H v uu Q I r (k _ _ _ _ q)⟩
theorem sgs_nil : SGs X [] [] := ⟨PGs.imp pgs_nil fun vs σ H Q ⟨l, q⟩ => by
  have e : vs = [] := List.eq_nil_of_length_eq_zero l
  subst e
  exact ⟨rfl, q⟩⟩
theorem sgs_cons {i : Nat} {is : List Nat} {x : Str} {es : List Expr} (t : SGs X es is) (hN : X.N.Nodup) (hi : X.N[i]? = some x := by rfl) (hx : Loc X.env.scope x := by first | exact Or.inl rfl | exact Or.inr rfl) (hf : X.fn x = true ∨ X.env.scope.names.lookup x = some .local := by first | exact .inl rfl | exact .inr rfl)
    (hs : (assignEach (.Name x pos :: es) X.env).map (·.2) = assign (.Name x pos) X.env :: (assignEach es X.env).map (·.2) := by rfl) : SGs X (.Name x pos :: es) (i :: is) := ⟨PGs.imp (pgs_cons (pg_name hN hi hx hf) t.p hs) fun vs σ H Q ⟨l, q⟩ => by
  cases vs with
  | nil => cases l
  | cons v r => exact ⟨v, r, rfl, by simpa using l, q⟩⟩
theorem sg_tup {es : List Expr} {k : Nat} {is : List Nat} (h : SGs X es is) (hc : X.calm = true := by rfl) (hn : (assignEach es X.env).length = is.length := by rfl) (hst : (assignEach es X.env).findIdx? (·.1) = none := by rfl) : SG X (.Tuple es k pos) (.tup is) :=
  ⟨PG.imp (pg_tup hc h.p hn hst) fun v σ H Q ⟨a, xs, e, hq, l, q⟩ => ⟨a, xs, e, hq, l, l, q⟩⟩
end
def bindD : Tg → D → Env → Option Env
  | .one i, d, ρ => some (ρ.set i (.val d))
  | .tup is, .tup ds, ρ => match Nat.decEq ds.length is.length with
    | .isTrue _ => some (setsE ρ is ds)
    | .isFalse _ => none
  | .tup _, _, _ => none
theorem wipe_set1 {σ : L2.St} {i : Nat} {x y : Option V} : ∀ vs : List Nat, (wipe (σ.set i x) vs).set i y = (wipe σ vs).set i y
  | [] => by unfold wipe; rw [List.set_set]
  | v :: vs => by
    unfold wipe
    by_cases e : v = i
    · subst e
      rw [List.set_set, List.set_set]
      exact wipe_set1 vs
    · rw [List.set_comm _ _ e, List.set_comm _ _ e, wipe_set1 vs]
theorem wipe_set {σ : L2.St} {i : Nat} {x : Option V} : ∀ {vs : List Nat}, i ∈ vs → wipe (σ.set i x) vs = wipe σ vs
  | [], h => by cases h
  | v :: vs, h => by
    unfold wipe
    by_cases e : v = i
    · subst e; exact wipe_set1 vs
    · rcases List.mem_cons.mp h with z | z
      · exact absurd z.symm e
      · rw [wipe_set z]
theorem wipe_sets {vs : List Nat} : ∀ {is : List Nat} {xs : List V} {σ : L2.St}, (∀ i ∈ is, i ∈ vs) → wipe (setsS σ is xs) vs = wipe σ vs
  | [], _, _, _ => rfl
  | i :: is, [], _, _ => rfl
  | i :: is, x :: xs, σ, h => by
    show wipe (setsS (σ.set i (some x)) is xs) vs = _
    rw [wipe_sets (fun j hj => h j (List.mem_cons_of_mem _ hj)), wipe_set (h i List.mem_cons_self)]
def Keep0 (σ : L2.St) (ρ : Env) (σ' : L2.St) (ρ' : Env) : Prop := ∀ k fs, ρ'[0]? = some (.ownI k fs) → ρ[0]? = some (.ownI k fs) ∧ σ'[0]? = σ[0]?
def off (F : Nat → List Addr) (i : Nat) : Nat → List Addr := fun j => if j = i then [] else F j
theorem off_sub {F : Nat → List Addr} {i j : Nat} {b : Addr} (h : b ∈ off F i j) : b ∈ F j ∧ j ≠ i := by
  unfold off at h
  split at h
  · cases h
  · exact ⟨h, by assumption⟩
theorem off_ne {F : Nat → List Addr} {i j : Nat} (h : j ≠ i) : off F i j = F j := if_neg h
theorem off_eq {F : Nat → List Addr} {i : Nat} : off F i i = [] := if_pos rfl
section
variable {c : Cf} {Ψ : Wd} {H : Hp} {S : Sto} {σ : L2.St} {ρ : Env} {F : Nat → List Addr}
theorem EnvOk.setV (e : EnvOk c Ψ σ ρ H F) (i : Nat) {v : V} {d : D} (r : Rep c Ψ v d) : EnvOk c Ψ (σ.set i (some v)) (ρ.set i (.val d)) H (off F i) := by
  refine ⟨by rw [List.length_set, List.length_set]; exact e.len, fun j s hs => ?_, fun j hj => ?_, fun j b hb => e.priv j b (off_sub hb).1, fun a b x ne hx hy => e.sep a b x ne (off_sub hx).1 (off_sub hy).1⟩
  · by_cases z : j = i
    · subst z
      have hl : j < ρ.length := by
        have := (List.getElem?_eq_some_iff.mp hs).1
        rwa [List.length_set] at this
      rw [List.getElem?_set_self hl] at hs
      cases hs
      rw [off_eq, List.getElem?_set_self (by rw [e.len]; exact hl)]
      exact ⟨rfl, v, rfl, r⟩
    · rw [List.getElem?_set_ne (Ne.symm z)] at hs
      rw [off_ne z, List.getElem?_set_ne (Ne.symm z)]
      exact e.slot j s hs
  · by_cases z : j = i
    · subst z; exact off_eq
    · rw [List.getElem?_set_ne (Ne.symm z)] at hj
      rw [off_ne z]; exact e.out j hj
theorem EnvOk.wipe1 (e : EnvOk c Ψ σ ρ H F) (i : Nat) : EnvOk c Ψ (σ.set i none) (ρ.set i .no) H (off F i) := by
  refine ⟨by rw [List.length_set, List.length_set]; exact e.len, fun j s hs => ?_, fun j hj => ?_, fun j b hb => e.priv j b (off_sub hb).1, fun a b x ne hx hy => e.sep a b x ne (off_sub hx).1 (off_sub hy).1⟩
  · by_cases z : j = i
    · subst z
      have hl : j < ρ.length := by
        have := (List.getElem?_eq_some_iff.mp hs).1
        rwa [List.length_set] at this
      rw [List.getElem?_set_self hl] at hs
      cases hs
      exact off_eq
    · rw [List.getElem?_set_ne (Ne.symm z)] at hs
      rw [off_ne z, List.getElem?_set_ne (Ne.symm z)]
      exact e.slot j s hs
  · by_cases z : j = i
    · subst z; exact off_eq
    · rw [List.getElem?_set_ne (Ne.symm z)] at hj
      rw [off_ne z]; exact e.out j hj
def wipeE (ρ : Env) : List Nat → Env
  | [] => ρ
  | v :: vs => (wipeE ρ vs).set v .no
theorem EnvOk.wipes (e : EnvOk c Ψ σ ρ H F) : ∀ vs : List Nat, ∃ F', EnvOk c Ψ (wipe σ vs) (wipeE ρ vs) H F' ∧ ∀ i b, b ∈ F' i → b ∈ F i
  | [] => ⟨F, e, fun _ _ h => h⟩
  | v :: vs => by
    obtain ⟨F', e', s⟩ := EnvOk.wipes e vs
    exact ⟨off F' v, e'.wipe1 v, fun i b h => s i b (off_sub h).1⟩
theorem keep0_set {i : Nat} {x : Option V} {d : D} : Keep0 σ ρ (σ.set i x) (ρ.set i (.val d)) := fun k fs h => by
  by_cases z : i = 0
  · subst z
    by_cases hl : 0 < ρ.length
    · rw [List.getElem?_set_self hl] at h
      cases h
    · rw [List.getElem?_eq_none (by rw [List.length_set]; omega)] at h
      cases h
  · rw [List.getElem?_set_ne z] at h
    exact ⟨h, List.getElem?_set_ne z⟩
theorem Keep0.trans {σ1 σ2 : L2.St} {ρ1 ρ2 : Env} (a : Keep0 σ ρ σ1 ρ1) (b : Keep0 σ1 ρ1 σ2 ρ2) : Keep0 σ ρ σ2 ρ2 := fun k fs h => by
  obtain ⟨h1, h2⟩ := b k fs h
  obtain ⟨h3, h4⟩ := a k fs h1
  exact ⟨h3, h2.trans h4⟩
theorem EnvOk.sets : ∀ {is : List Nat} {vs : List V} {ds : List D} {σ : L2.St} {ρ : Env} {F : Nat → List Addr}, EnvOk c Ψ σ ρ H F → Reps c Ψ vs ds →
    ∃ F', EnvOk c Ψ (setsS σ is vs) (setsE ρ is ds) H F' ∧ (∀ i b, b ∈ F' i → b ∈ F i) ∧ Keep0 σ ρ (setsS σ is vs) (setsE ρ is ds)
  | [], _, _, _, _, F, e, _ => ⟨F, e, fun _ _ h => h, fun _ _ h => ⟨h, rfl⟩⟩
  | _ :: _, _, _, _, _, F, e, .nil => ⟨F, e, fun _ _ h => h, fun _ _ h => ⟨h, rfl⟩⟩
  | i :: is, _, _, _, _, F, e, .cons h t => by
    obtain ⟨F', e', s, k⟩ := EnvOk.sets (is := is) (e.setV i h) t
    exact ⟨F', e', fun j b hb => (off_sub (s j b hb)).1, Keep0.trans keep0_set k⟩
theorem bind_ok {t : Tg} {v : V} {d : D} {ρ' : Env} {Q : L2.St → Hp → Prop} (so : StoOk c Ψ H S) (eo : EnvOk c Ψ σ ρ H F) (r : Rep c Ψ v d) (h : bindD t d ρ = some ρ')
    (q : ∀ σ' F', EnvOk c Ψ σ' ρ' H F' → (∀ i b, b ∈ F' i → b ∈ F i) → (∀ vs, (∀ i ∈ t.is, i ∈ vs) → wipe σ' vs = wipe σ vs) → Keep0 σ ρ σ' ρ' → Q σ' H) : gTg c.K t v σ H Q := by
  cases t with
  | one i =>
    unfold bindD at h
    cases h
    exact q _ _ (eo.setV i r) (fun j b hb => (off_sub hb).1) (fun vs hv => wipe_set (hv i (by simp [Tg.is]))) keep0_set
  | tup is =>
    cases d with
    | tup ds =>
      have h' : (match Nat.decEq ds.length is.length with
        | .isTrue _ => some (setsE ρ is ds)
        | .isFalse _ => none) = some ρ' := h
      split at h'
      · rename_i l _
        cases h'
        cases r with
        | tup h0 l0 r0 =>
          obtain ⟨F', e', s, k⟩ := EnvOk.sets (is := is) eo r0
          exact ⟨_, _, rfl, sqT_phi so h0, by rw [r0.length]; exact l, q _ _ e' s (fun vs hv => wipe_sets hv) k⟩
      · cases h'
    | _ => cases h
end

/-! ### what is walked -/
def ItOk (c : Cf) (Rl : Wd → Hp → Prop) (J : It) (ds : List D) : Prop := ds.length ≤ LIM ∧ ∃ (G : Hp → Prop) (Y : Nat → Hp → V → Hp → Prop), Walk J ds.length G Y ∧ (∀ Ψ S H, Rl Ψ H → StoOk c Ψ H S → G H) ∧
  ∀ i H x H' Ψ S d, Rl Ψ H → StoOk c Ψ H S → ds[i]? = some d → Y i H x H' → ∃ Ψ', Ext Ψ H Ψ' H' ∧ StoOk c Ψ' H' S ∧ Rep c Ψ' x d
def rI (c : Cf) (W : L2.St → XK) (m : Env → M (List D)) : TI := fun σ H R => ∃ Ψ ρ S F, StoOk c Ψ H S ∧ EnvOk c Ψ σ ρ H F ∧
  Post c (W σ) Ψ H (m ρ S) fun ds S' => ∀ Ψ' J H', Ext Ψ H Ψ' H' → StoOk c Ψ' H' S' → ItOk c (fun Ψ2 _ => Le Ψ' Ψ2) J ds → R J H'
def rIC (c : Cf) (W : L2.St → XK) (m : Env → M (List D)) : TI := fun σ H R => ∃ Ψ ρ S F, StoOk c Ψ H S ∧ EnvOk c Ψ σ ρ H F ∧
  Post c (W σ) Ψ H (m ρ S) fun ds S' => ∀ Ψ' J H', Ext Ψ H Ψ' H' → StoOk c Ψ' H' S' → ItOk c (fun Ψ2 H2 => Ext Ψ' H' Ψ2 H2) J ds → R J H'
structure SI (c : Cf) (X : Cx) (W : L2.St → XK) (tg e : Expr) (m : Env → M (List D)) : Prop where
  k : X.K = c.K
  p : PI X tg e (rI c W m)
structure SIC (c : Cf) (X : Cx) (W : L2.St → XK) (tg e : Expr) (m : Env → M (List D)) : Prop where
  k : X.K = c.K
  p : PI X tg e (rIC c W m)
theorem PI.imp {X : Cx} {tg e : Expr} {t u : TI} (h : PI X tg e t) (k : ∀ σ H Q, u σ H Q → t σ H Q) : PI X tg e u := ⟨fun pins s σ H Q I q => h.run pins s σ H Q I (k _ _ _ q)⟩
theorem ItOk.imp {c : Cf} {R R' : Wd → Hp → Prop} {J : It} {ds : List D} (h : ItOk c R J ds) (k : ∀ Ψ H, R' Ψ H → R Ψ H) : ItOk c R' J ds := by
  obtain ⟨l, G, Y, w, g, y⟩ := h
  exact ⟨l, G, Y, w, fun Ψ S H r => g Ψ S H (k _ _ r), fun i H x H' Ψ S d r => y i H x H' Ψ S d (k _ _ r)⟩
theorem SI.sic {c : Cf} {X : Cx} {W : L2.St → XK} {tg e : Expr} {m : Env → M (List D)} (h : SI c X W tg e m) : SIC c X W tg e m :=
  ⟨h.k, PI.imp h.p fun σ H R ⟨Ψ, ρ, S, F, so, eo, q⟩ => ⟨Ψ, ρ, S, F, so, eo, q.mono fun ds S' k Ψ' J H' x s i => k Ψ' J H' x s (i.imp fun _ _ z => z.le)⟩⟩
section
variable {c : Cf} {X : Cx} {W : L2.St → XK} {tg e a b : Expr} {pos p : Pos}
/-- the items of a list, a tuple -/
def seqM (d : D) : M (List D) := fun S => match d with
  | .lst ds => .ok ds S
  | .tup ds => .ok ds S
  | .scr ds => .ok ds S
  | _ => .stuck
theorem itok_list {Ψ : Wd} {a : Addr} {vs : List V} {ds : List D} (h : SqL c.K Ψ.fz a vs) (l : vs.length ≤ LIM) (r : Reps c Ψ vs ds) : ItOk c (fun Ψ2 _ => Le Ψ Ψ2) (Itl c.K a) ds := by
  refine ⟨by rw [← r.length]; exact l, fun H => SqL c.K H a vs, YAt vs, by rw [← r.length]; exact walk_list, fun Ψ2 S2 H2 l s => sqL_phi s (l.sqL h), fun i H2 x H3 Ψ2 S2 d l s hd y => ?_⟩
  · obtain ⟨e, hx⟩ := y
    subst e
    obtain ⟨v, hv, rv⟩ := r.get hd
    rw [hx] at hv; cases hv
    exact ⟨Ψ2, Ext.refl _ _, s, rv.mono l⟩
theorem itok_tup {Ψ : Wd} {a : Addr} {vs : List V} {ds : List D} (h : SqT c.K Ψ.fz a vs) (l : vs.length ≤ LIM) (r : Reps c Ψ vs ds) : ItOk c (fun Ψ2 _ => Le Ψ Ψ2) (Itt c.K a) ds := by
  refine ⟨by rw [← r.length]; exact l, fun H => SqT c.K H a vs, YAt vs, by rw [← r.length]; exact walk_tup, fun Ψ2 S2 H2 l s => sqT_phi s (l.sqT h), fun i H2 x H3 Ψ2 S2 d l s hd y => ?_⟩
  obtain ⟨e, hx⟩ := y
  subst e
  obtain ⟨v, hv, rv⟩ := r.get hd
  rw [hx] at hv; cases hv
  exact ⟨Ψ2, Ext.refl _ _, s, rv.mono l⟩
theorem si_seq {m : Env → M D} (h : SE c X W e m) : SI c X W tg e (fun ρ => bd (m ρ) seqM) := by
  refine ⟨h.k, ⟨fun pins s σ H R I q => ?_⟩⟩
  obtain ⟨Ψ, ρ, S, F, so, eo, q⟩ := q
  have q' := q.bd
  cases z : m ρ S with
  | stuck => rw [z] at q'; exact q'.elim
  | err k fs S1 =>
    rw [z] at q'
    exact (pi_list (tg := tg) h.p).run pins s σ H R I ⟨Ψ, ρ, S, F, so, eo, by rw [z]; exact q'⟩
  | ok d S1 =>
    rw [z] at q'
    have q2 : Post c (W σ) Ψ H (seqM d S1) _ := q'
    unfold seqM at q2
    split at q2
    · refine (pi_list (tg := tg) h.p).run pins s σ H R I ⟨Ψ, ρ, S, F, so, eo, by
        rw [z]
        intro Ψ1 v H1 e1 so1 r1
        cases r1 with
        | lst h1 l1 r1 => exact ⟨_, rfl, ⟨_, SqL.of (so1.phi _ _ h1)⟩, q2 Ψ1 _ H1 e1 so1 (h.k ▸ itok_list (.inl (.inl h1)) l1 r1)⟩⟩
    · refine (pi_tup (tg := tg) h.p).run pins s σ H R I ⟨Ψ, ρ, S, F, so, eo, by
        rw [z]
        intro Ψ1 v H1 e1 so1 r1
        cases r1 with
        | tup h1 l1 r1 => exact ⟨_, rfl, ⟨_, by rw [h.k]; exact sqT_phi so1 h1⟩, q2 Ψ1 _ H1 e1 so1 (h.k ▸ itok_tup h1 l1 r1)⟩⟩
    · refine (pi_list (tg := tg) h.p).run pins s σ H R I ⟨Ψ, ρ, S, F, so, eo, by
        rw [z]
        intro Ψ1 v H1 e1 so1 r1
        cases r1 with
        | scr h1 l1 r1 => exact ⟨_, rfl, ⟨_, by rw [h.k]; exact sqL_phi so1 h1⟩, q2 Ψ1 _ H1 e1 so1 (h.k ▸ itok_list h1 l1 r1)⟩⟩
    · exact q2.elim
/-- a comprehension may walk the frame's own list -/
theorem sic_own {m : Env → M D} (h : SB c X W e m) : SIC c X W tg e (fun ρ => bd (m ρ) fun d => fun S => match d with
    | .lst ds => .ok ds S
    | _ => .stuck) := by
  refine ⟨h.k, PI.imp (pi_list (tg := tg) h.p) fun σ H R ⟨Ψ, ρ, S, F, so, eo, q⟩ => ⟨Ψ, ρ, S, F, so, eo, q.bd.mono fun d S1 q1 Ψ1 x H1 e1 so1 r1 => ?_⟩⟩
  split at q1
  · rename_i ds
    rcases r1 with r1 | ⟨i, ds', ed, hi, hs⟩
    · cases r1 with
      | lst h1 l1 r1 => exact ⟨_, rfl, ⟨_, SqL.of (so1.phi _ _ h1)⟩, q1 Ψ1 _ H1 e1 so1 (h.k ▸ (itok_list (.inl (.inl h1)) l1 r1).imp fun _ _ z => z.le)⟩
    · cases ed
      have eo1 := eo.ext e1
      obtain ⟨a, vs, hF, z, h3, l, h4⟩ := eo1.slot i _ hi
      rw [hs] at z
      cases z
      refine ⟨a, rfl, ⟨_, SqL.of h3⟩, q1 Ψ1 _ H1 e1 so1 ?_⟩
      have pr := eo1.priv i a (by rw [hF]; simp)
      refine ⟨by rw [← h4.length]; exact l, fun H => SqL c.K H a vs, YAt vs, by rw [h.k, ← h4.length]; exact walk_list, fun Ψ2 S2 H2 x s => SqL.of (x.keep _ _ h3 pr.2.1), fun j H2 x H3 Ψ2 S2 d l s hd y => ?_⟩
      obtain ⟨e, hx⟩ := y
      subst e
      obtain ⟨v, hv, rv⟩ := h4.get hd
      rw [hx] at hv; cases hv
      exact ⟨Ψ2, Ext.refl _ _, s, rv.mono l.le⟩
  · exact q1.elim
/-- range -/
def rng (lo : Int) (n : Nat) : List D := (List.range n).map fun (i : Nat) => D.int (lo + i)
theorem rng_get {lo : Int} {n i : Nat} {d : D} (h : (rng lo n)[i]? = some d) : d = .int (lo + i) := by
  unfold rng at h
  rw [List.getElem?_map] at h
  cases e : (List.range n)[i]? with
  | none => rw [e] at h; cases h
  | some j =>
    rw [e] at h
    cases h
    have := List.getElem?_eq_some_iff.mp e
    obtain ⟨_, z⟩ := this
    rw [List.getElem_range] at z
    rw [z]
theorem rng_len {lo : Int} {n : Nat} : (rng lo n).length = n := by unfold rng; rw [List.length_map, List.length_range]
theorem itok_rng {Rl : Wd → Hp → Prop} {lo : Int} {n : Nat} (hn : n ≤ LIM) : ItOk c Rl (Itr lo n) (rng lo n) := by
  refine ⟨by rw [rng_len]; exact hn, fun _ => True, YFn fun i => .int (lo + i), by rw [rng_len]; exact walk_range, fun _ _ _ _ _ => trivial, fun i H2 x H3 Ψ2 S2 d l s hd y => ?_⟩
  obtain ⟨e, hx⟩ := y
  subst e hx
  rw [rng_get hd]
  exact ⟨Ψ2, Ext.refl _ _, s, .int _⟩
def inI (i : Int) : Bool := decide (-1000 ≤ i) && decide (i ≤ 99000)
theorem inI_b {i : Int} (h : inI i = true) : -(2 ^ 62) ≤ i ∧ i < 2 ^ 62 := by
  unfold inI at h
  simp only [Bool.and_eq_true, decide_eq_true_eq] at h
  omega
theorem inI_n {i j : Int} (h : inI i = true) (h' : inI j = true) : (j - i).toNat ≤ LIM := by
  unfold inI at h h'
  simp only [Bool.and_eq_true, decide_eq_true_eq] at h h'
  show _ ≤ 100000
  omega
theorem inI_m {j : Int} (h' : inI j = true) : j.toNat ≤ LIM := by
  unfold inI at h'
  simp only [Bool.and_eq_true, decide_eq_true_eq] at h'
  show _ ≤ 100000
  omega
theorem si_range1 {m : Env → M (List D)} (h : SA c X W [a] m) (hm : X.mg "range" = none) (hg : Gl X "range" := by rfl) (hs : starEach [a] X.env = [(false, eval a X.env)] := by rfl) : SI c X W tg (.Call (.Name "range" p) [a] [] pos) (fun ρ => bd (m ρ) fun ds => fun S => match ds with
    | [.int j] => if inI j = true then .ok (rng 0 j.toNat) S else .stuck
    | _ => .stuck) := by
  refine ⟨h.k, PI.imp (pi_range1 (tg := tg) hg hm h.p hs) fun σ H R ⟨Ψ, ρ, S, F, so, eo, q⟩ => ⟨Ψ, ρ, S, F, so, eo, q.bd.mono fun ds S1 q1 Ψ1 vs H1 e1 so1 r1 => ?_⟩⟩
  split at q1
  · split at q1
    · cases r1 with
      | cons h1 t1 =>
        cases h1
        cases t1
        have b := inI_b (by assumption)
        exact ⟨_, rfl, b.1, b.2, q1 Ψ1 _ H1 e1 so1 (itok_rng (inI_m (by assumption)))⟩
    · exact q1.elim
  · exact q1.elim
theorem si_range2 {m : Env → M (List D)} (h : SA c X W [a, b] m) (hm : X.mg "range" = none) (hg : Gl X "range" := by rfl) (hs : starEach [a, b] X.env = [(false, eval a X.env), (false, eval b X.env)] := by rfl) (hs2 : starEach [b] X.env = [(false, eval b X.env)] := by rfl) :
    SI c X W tg (.Call (.Name "range" p) [a, b] [] pos) (fun ρ => bd (m ρ) fun ds => fun S => match ds with
    | [.int i, .int j] => if (inI i && inI j) = true then .ok (rng i (j - i).toNat) S else .stuck
    | _ => .stuck) := by
  refine ⟨h.k, PI.imp (pi_range2 (tg := tg) hg hm h.p hs hs2) fun σ H R ⟨Ψ, ρ, S, F, so, eo, q⟩ => ⟨Ψ, ρ, S, F, so, eo, q.bd.mono fun ds S1 q1 Ψ1 vs H1 e1 so1 r1 => ?_⟩⟩
  split at q1
  · split at q1
    · rename_i z
      rw [Bool.and_eq_true] at z
      cases r1 with
      | cons h1 t1 =>
        cases h1
        cases t1 with
        | cons h2 t2 =>
          cases h2
          cases t2
          have b := inI_b z.1
          have b' := inI_b z.2
          exact ⟨_, _, rfl, ⟨b.1, b.2, b'.1, b'.2⟩, q1 Ψ1 _ H1 e1 so1 (itok_rng (inI_n z.1 z.2))⟩
    · exact q1.elim
  · exact q1.elim
/-- range by steps of a written size -/
def rngC (lo k : Int) (n : Nat) : List D := (List.range n).map fun (i : Nat) => D.int (lo + (i : Nat) * k)
theorem rngC_get {lo k : Int} {n i : Nat} {d : D} (h : (rngC lo k n)[i]? = some d) : d = .int (lo + (i : Nat) * k) := by
  unfold rngC at h
  rw [List.getElem?_map] at h
  cases e : (List.range n)[i]? with
  | none => rw [e] at h; cases h
  | some j =>
    rw [e] at h
    cases h
    have := List.getElem?_eq_some_iff.mp e
    obtain ⟨_, z⟩ := this
    rw [List.getElem_range] at z
    rw [z]
theorem rngC_len {lo k : Int} {n : Nat} : (rngC lo k n).length = n := by unfold rngC; rw [List.length_map, List.length_range]
theorem itok_rngC {Rl : Wd → Hp → Prop} {lo k : Int} {n : Nat} (hn : n ≤ LIM) : ItOk c Rl (Itc lo k n) (rngC lo k n) := by
  refine ⟨by rw [rngC_len]; exact hn, fun _ => True, YFn fun i => .int (lo + (i : Nat) * k), by rw [rngC_len]; exact walk_rangeC, fun _ _ _ _ _ => trivial, fun i H2 x H3 Ψ2 S2 d l s hd y => ?_⟩
  obtain ⟨e, hx⟩ := y
  subst e hx
  rw [rngC_get hd]
  exact ⟨Ψ2, Ext.refl _ _, s, .int _⟩
def rgCB (i j k : Int) (n : Nat) : Bool := decide (k ≠ 0) && decide (k.natAbs < 1073741824) && Builtin.Range.small i j k && decide (Builtin.Range.rangeSize i j k = n) && decide (n ≤ 100000)
theorem si_range3 {d : Expr} {m : Env → M (List D)} (h : SA c X W [a, b, d] m) (hm : X.mg "range" = none) (hg : Gl X "range" := by rfl) (hs : starEach [a, b, d] X.env = (false, eval a X.env) :: starEach [b, d] X.env := by rfl) (hpl : (backTo pos (starEach [b, d] X.env)).any (·.1) = false := by rfl) :
    SI c X W tg (.Call (.Name "range" p) [a, b, d] [] pos) (fun ρ => bd (m ρ) fun ds => fun S => match ds with
    | [.int i, .int j, .int k] => if rgCB i j k (Builtin.Range.rangeSize i j k).toNat = true then .ok (rngC i k (Builtin.Range.rangeSize i j k).toNat) S else .stuck
    | _ => .stuck) := by
  refine ⟨h.k, PI.imp (pi_range3 (tg := tg) hg hm h.p hs hpl) fun σ H R ⟨Ψ, ρ, S, F, so, eo, q⟩ => ⟨Ψ, ρ, S, F, so, eo, q.bd.mono fun ds S1 q1 Ψ1 vs H1 e1 so1 r1 => ?_⟩⟩
  split at q1
  · split at q1
    · rename_i z
      unfold rgCB at z
      simp only [Bool.and_eq_true, decide_eq_true_eq] at z
      cases r1 with
      | cons h1 t1 =>
        cases h1
        cases t1 with
        | cons h2 t2 =>
          cases h2
          cases t2 with
          | cons h3 t3 =>
            cases h3
            cases t3
            exact ⟨_, _, _, _, rfl, ⟨z.1.1.1.1, z.1.1.1.2, z.1.1.2, z.1.2⟩, q1 Ψ1 _ H1 e1 so1 (itok_rngC z.2)⟩
    · exact q1.elim
  · exact q1.elim
end
end Sm

/-! text: Sim7 -/
set_option Elab.async false
set_option linter.all false
set_option maxRecDepth 100000
set_option maxHeartbeats 1000000
namespace Sm
open PySem PySem.Spec PyProof.Rows L2

theorem Ext.upd {Ψ Ψ' : Wd} {H H' : Hp} {a : Addr} {o : HO} (x : Ext Ψ H Ψ' H') (n : H a = none) : Ext Ψ H Ψ' (L2.upd H' a o) where
  le := x.le
  dom := fun b h => by
    by_cases e : b = a
    · subst e; exact n
    · rw [upd_ne e] at h; exact x.dom b h
  nphi := x.nphi
  nmu := x.nmu
  keep := fun b u h f => by
    rw [upd_ne (ne_of_none h n)]
    exact x.keep b u h f
theorem StoOk.updF {c : Cf} {Ψ : Wd} {H : Hp} {S : Sto} {a : Addr} {o : HO} (s : StoOk c Ψ H S) (p : Ψ.fz a = none) (f : ¬ Foot Ψ a) : StoOk c Ψ (L2.upd H a o) S where
  phi := fun b u h => by
    rw [upd_ne (ne_of_none h p)]
    exact s.phi b u h
  off := s.off
  nd := s.nd
  len := s.len
  tbc := s.tbc
  tab := fun p hp => let ⟨ps, h1, h2⟩ := s.tab p hp; ⟨ps, by rw [upd_ne (fun z => f (.inr ⟨p.2, by rw [← z]; exact hp⟩))]; exact h1, h2⟩
  tnd := s.tnd
  obj := fun n u h => by
    obtain ⟨q, h1, h2⟩ := s.obj n u h
    have n1 : q.1 ≠ a := fun z => f (.inl ⟨n, q, h1, .inl z.symm⟩)
    have n2 : q.2 ≠ a := fun z => f (.inl ⟨n, q, h1, .inr z.symm⟩)
    refine ⟨q, h1, ?_⟩
    cases u with
    | lst ds => obtain ⟨vs, x1, x2, x3, x4⟩ := h2; exact ⟨vs, by rw [upd_ne n1]; exact x1, x2, x3, x4⟩
    | ins k fs =>
      obtain ⟨vs, x1, x2, x3, x4⟩ := h2
      refine ⟨vs, Slt.keep x1 fun b hb u hu => ?_, x2, by rw [upd_ne n2]; exact x3, x4⟩
      rcases hb with rfl | rfl
      · rw [upd_ne n1]; exact hu
      · rw [upd_ne n2]; exact hu
/-- what is new at D stays unknown -/
theorem Ext.free {Ψ Ψ' : Wd} {H H' : Hp} {a : Addr} (x : Ext Ψ H Ψ' H') (p : Ψ.fz a = none) (f : ¬ Foot Ψ a) (h : H a ≠ none) : Ψ'.fz a = none ∧ ¬ Foot Ψ' a := by
  refine ⟨?_, fun g => ?_⟩
  · cases q : Ψ'.fz a with
    | none => rfl
    | some o =>
      rcases x.nphi a o q with z | z
      · rw [p] at z; cases z
      · exact absurd z h
  · rcases x.nmu a g with z | z
    · exact f z
    · exact h z
theorem set_wipe {σ : L2.St} {i : Nat} : ∀ {vs : List Nat}, i ∈ vs → (wipe σ vs).set i none = wipe σ vs
  | [], h => by cases h
  | v :: vs, h => by
    unfold wipe
    by_cases e : v = i
    · subst e; rw [List.set_set]
    · rcases List.mem_cons.mp h with z | z
      · exact absurd z.symm e
      · rw [List.set_comm _ _ e, set_wipe z]
theorem wipe_wipe {σ : L2.St} {vs : List Nat} : ∀ {us : List Nat}, (∀ i ∈ us, i ∈ vs) → wipe (wipe σ vs) us = wipe σ vs
  | [], _ => rfl
  | u :: us, h => by
    show (wipe (wipe σ vs) us).set u none = _
    rw [wipe_wipe (fun i hi => h i (List.mem_cons_of_mem _ hi)), set_wipe (h u List.mem_cons_self)]
/-- a walk, whatever its turn asks -/
theorem it_gen {J : It} {n : Nat} {G : Hp → Prop} {Y : Nat → Hp → V → Hp → Prop} (w : Walk J n G Y) {H0 : Hp} {Qd : Hp → Prop} {B : V → Hp → (Hp → Prop) → Prop} (Pv : Nat → Hp → Prop) (h0 : Pv 0 H0) (hG : ∀ i H, i ≤ n → Pv i H → G H)
    (hs : ∀ i x H H', i < n → Pv i H → Y i H x H' → B x H' (Pv (i + 1))) (hd : ∀ H, Pv n H → Qd H) :
    ∃ W : Nat → Nat → Hp → Prop, (∃ m, W 0 m H0) ∧ ∀ i m H, W i m H → (J.stop i H ∧ Qd H) ∨ (J.go i H ∧ ∃ Nx : Hp → Prop, (∀ H', Nx H' → ∃ m', m' < m ∧ W (i + 1) m' H') ∧ ∀ x H', J.yld i H x H' → B x H' Nx) := by
  refine ⟨fun i m H => m = n - i ∧ i ≤ n ∧ Pv i H, ⟨n, by simp, Nat.zero_le _, h0⟩, ?_⟩
  rintro i m H ⟨rfl, hi, p⟩
  have q := hG i H hi p
  by_cases hlt : i < n
  · exact .inr ⟨w.goes i H hlt q, Pv (i + 1), fun H' p' => ⟨n - (i + 1), by omega, rfl, hlt, p'⟩, fun x H' y => hs i x H H' hlt p (w.yields i H x H' hlt q y)⟩
  · have e : i = n := by omega
    subst e
    exact .inl ⟨w.stops H q, hd H p⟩

abbrev WF : L2.St → XK := fun _ _ _ _ => False
/-- [e for .. in ds if t] -/
def lcM (bnd : D → Option Env) (t : Env → M Bool) (e : Env → M D) : List D → M (List D)
  | [] => rt []
  | d :: ds => match bnd d with
    | none => stk
    | some ρ => bd (t ρ) fun b => iteM b (bd (e ρ) fun y => bd (lcM bnd t e ds) fun ys => rt (y :: ys)) (lcM bnd t e ds)
structure STs (c : Cf) (X : Cx) (W : L2.St → XK) (ifs : List Expr) (m : Env → M Bool) : Prop where
  p : PTs X ifs (rT c W m)
theorem PTs.imp {X : Cx} {es : List Expr} {t u : TT} (h : PTs X es t) (k : ∀ σ H Q, u σ H Q → t σ H Q) : PTs X es u := ⟨fun pins s σ H Q I q => h.run pins s σ H Q I (k _ _ _ q)⟩
theorem sts_nil {c : Cf} {X : Cx} {W : L2.St → XK} : STs c X W [] (fun _ => rt true) := ⟨PTs.imp pts_nil fun σ H Q ⟨Ψ, ρ, S, F, so, eo, q⟩ => q Ψ H (Ext.refl _ _) so⟩
theorem sts_one {c : Cf} {X : Cx} {W : L2.St → XK} {a : Expr} {m : Env → M Bool} (h : ST c X W a m) : STs c X W [a] m := ⟨pts_one h.p⟩

section
variable {c : Cf} {X : Cx} {W : L2.St → XK} {mi : Env → M (List D)} {mt : Env → M Bool} {me : Env → M D} {t : Tg} {vs : List Nat}
/-- the list that grows, what is to come -/
structure Grow (c : Cf) (Ψ1 : Wd) (H1 : Hp) (D0 : Addr) (R : List D → Sto → Prop) (m : M (List D)) (n : Nat) (H2 : Hp) : Prop where
  ex : ∃ Ψ2 S2 acc accV, Ext Ψ1 H1 Ψ2 H2 ∧ StoOk c Ψ2 H2 S2 ∧ H2 D0 = some (.lst accV) ∧ Reps c Ψ2 accV acc ∧ accV.length ≤ n ∧ Ψ2.fz D0 = none ∧ ¬ Foot Ψ2 D0 ∧ Ok0 (m S2) fun ys S' => R (acc ++ ys) S'
theorem lc_r (hv : ∀ i ∈ t.is, i ∈ vs) {σ : L2.St} {H : Hp} {Q : VK} (h : rN c W (fun ρ => bd (mi ρ) fun ds => noX (lcM (fun d => bindD t d (wipeE ρ vs)) mt me ds)) σ H Q) :
    tLc (rIC c W mi) (gTg c.K t) (rT c WF mt) (rE c WF me) vs σ H Q := by
  obtain ⟨Ψ, ρ, S, F, so, eo, q⟩ := h
  refine ⟨Ψ, ρ, S, F, so, eo, q.bd.mono fun ds S1 q1 Ψ1 J H1 e1 so1 it => ?_⟩
  intro D0 hD
  obtain ⟨hl, G, Y, wk, hG, hY⟩ := it
  have q2 : Ok0 (lcM (fun d => bindD t d (wipeE ρ vs)) mt me ds S1) (RN c Ψ H Q) := Post.ok0 q1
  obtain ⟨F', eo', sub⟩ := eo.wipes vs
  refine it_gen (H0 := upd H1 D0 (.lst [])) (B := fun x H' Nx => gTg c.K t x (wipe σ vs) H' fun σ2 H2 => wipe σ2 vs = wipe σ vs ∧ rT c WF mt σ2 H2 fun b H3 =>
      if b = true then rE c WF me σ2 H3 fun y H4 => ∃ acc, H4 D0 = some (.lst acc) ∧ acc.length < sizeLine ∧ Nx (upd H4 D0 (.lst (acc ++ [y]))) else Nx H3)
    wk (fun i H2 => Grow c Ψ1 H1 D0 (RN c Ψ H Q) (lcM (fun d => bindD t d (wipeE ρ vs)) mt me (ds.drop i)) i H2) ?_ ?_ ?_ ?_
  · exact ⟨Ψ1, S1, [], [], Ext.lay hD, so1.lay hD, upd_same, .nil, Nat.zero_le _, so1.phiNone hD, so1.footNone hD, q2⟩
  · rintro i H2 hi ⟨Ψ2, S2, acc, accV, x2, s2, _⟩
    exact hG Ψ2 S2 H2 x2 s2
  · rintro i x H2 H3 hi ⟨Ψ2, S2, acc, accV, x2, s2, h2, r2, l2, p2, f2, k2⟩ y
    have hd : ds[i]? = some ds[i] := List.getElem?_eq_getElem hi
    obtain ⟨Ψ3, x3, s3, r3⟩ := hY i H2 x H3 Ψ2 S2 _ x2 s2 hd y
    have e13 := x2.trans x3
    rw [List.drop_eq_getElem_cons hi] at k2
    unfold lcM at k2
    cases hb : bindD t ds[i] (wipeE ρ vs) with
    | none => rw [hb] at k2; exact k2.elim
    | some ρ' =>
      rw [hb] at k2
      have k3 : Ok0 (bd (mt ρ') (fun b => iteM b (bd (me ρ') fun y => bd (lcM (fun d => bindD t d (wipeE ρ vs)) mt me (ds.drop (i + 1))) fun ys => rt (y :: ys)) (lcM (fun d => bindD t d (wipeE ρ vs)) mt me (ds.drop (i + 1)))) S2) _ := k2
      refine bind_ok s3 (eo'.ext (e1.trans e13)) r3 hb fun σ' F'' eo3 _ hw _ => ?_
      refine ⟨(hw vs hv).trans (wipe_wipe fun _ h => h), Ψ3, ρ', S2, F'', s3, eo3, (k3.bd.post).mono fun b S4 q4 Ψ4 H4 x4 s4 => ?_⟩
      have hD3 : H3 D0 = some (.lst accV) := x3.keep _ _ h2 f2
      have fr3 := x3.free p2 f2 (by rw [h2]; exact fun z => nomatch z)
      have hD4 : H4 D0 = some (.lst accV) := x4.keep _ _ hD3 fr3.2
      have fr4 := x4.free fr3.1 fr3.2 (by rw [hD3]; exact fun z => nomatch z)
      have e14 := e13.trans x4
      cases b with
      | false =>
        show if false = true then _ else _
        rw [if_neg Bool.false_ne_true]
        exact ⟨Ψ4, S4, acc, accV, e14, s4, hD4, r2.mono (x3.le.trans x4.le), Nat.le_succ_of_le l2, fr4.1, fr4.2, q4⟩
      | true =>
        show if true = true then _ else _
        rw [if_pos rfl]
        have q5 : Ok0 (bd (me ρ') (fun y => bd (lcM (fun d => bindD t d (wipeE ρ vs)) mt me (ds.drop (i + 1))) fun ys => rt (y :: ys)) S4) _ := q4
        refine ⟨Ψ4, ρ', S4, F'', s4, eo3.ext x4, (q5.bd.post).mono fun dy S5 q6 Ψ5 y5 H5 x5 s5 r5 => ?_⟩
        have hD5 : H5 D0 = some (.lst accV) := x5.keep _ _ hD4 fr4.2
        have fr5 := x5.free fr4.1 fr4.2 (by rw [hD4]; exact fun z => nomatch z)
        have e15 := e14.trans x5
        refine ⟨accV, hD5, lim_lt (by omega), Ψ5, S5, acc ++ [dy], accV ++ [y5], e15.upd hD, s5.updF fr5.1 fr5.2, upd_same, (r2.mono ((x3.le.trans x4.le).trans x5.le)).app (.cons r5 .nil), by rw [List.length_append]; exact Nat.succ_le_succ l2, fr5.1, fr5.2, ?_⟩
        refine q6.bd.mono fun ys S6 q7 => ?_
        rw [List.append_assoc]
        exact q7
  · rintro H2 ⟨Ψ2, S2, acc, accV, x2, s2, h2, r2, l2, p2, f2, k2⟩
    rw [List.drop_eq_nil_of_le (Nat.le_refl _)] at k2
    have k3 : RN c Ψ H Q (acc ++ []) S2 := k2
    rw [List.append_nil] at k3
    exact k3 Ψ2 D0 accV H2 (e1.trans x2) s2 h2 (Nat.le_trans l2 hl) r2 p2 f2 (e1.dom D0 hD)
end
section
variable {c : Cf} {X : Cx} {W : L2.St → XK} {mi : Env → M (List D)} {mt : Env → M Bool} {me : Env → M D} {t : Tg} {elt tg iter : Expr} {ifs : List Expr} {scope : Scope} {own : List (Str × Nat)} {pos : Pos}
theorem sn_lc (hi : SIC c X W tg iter mi) (hN : X.N.Nodup) (ok : BlkOk X.N X.env.scope scope own) (hv : ∀ i ∈ t.is, i ∈ own.map (·.2))
    (hg : ∀ (s : Shared) (H : Hp) (C : Addr) (cl : List (Str × Addr)) (fp : List Addr), SG (X.blk s H scope (compEnvC scope cl C X.env) fp) tg t) (ht : ∀ (s : Shared) (H : Hp) (C : Addr) (cl : List (Str × Addr)) (fp : List Addr), STs c (X.blk s H scope (compEnvC scope cl C X.env) fp) WF ifs mt)
    (he : ∀ (s : Shared) (H : Hp) (C : Addr) (cl : List (Str × Addr)) (fp : List Addr), SE c (X.blk s H scope (compEnvC scope cl C X.env) fp) WF elt me) (hc : X.calm = true := by rfl) (hs : ∀ x, foldedSetIterable iter X.env x = pure x := by intro _; rfl) :
    SN c X W (.ListComp elt [⟨tg, iter, ifs, 0⟩] scope pos) (fun ρ => bd (mi ρ) fun ds => noX (lcM (fun d => bindD t d (wipeE ρ (own.map (·.2)))) mt me ds)) :=
  ⟨hi.k, PE.imp (pe_lc hc hN hi.p ok (fun s H C cl fp => hi.k ▸ (hg s H C cl fp).p) (fun s H C cl fp => (ht s H C cl fp).p) (fun s H C cl fp => (he s H C cl fp).p) hs) fun σ H Q h => lc_r hv h⟩
end
end Sm

/-! text: Sim8 -/
set_option Elab.async false
set_option linter.all false
set_option maxRecDepth 100000
set_option maxHeartbeats 1000000
namespace Sm
open PySem PySem.Spec PyProof.Rows L2

/-! ### statements -/
inductive Out where
  | nx (ρ : Env)
  | ret (d : D)
  | bk (ρ : Env)
  | ct (ρ : Env)
/-- where the def began -/
structure Bs where
  wd : Wd
  H : Hp
  self : Addr
structure Gd (c : Cf) (B : Bs) (Ψ : Wd) (σ : L2.St) (ρ : Env) (H : Hp) (F : Nat → List Addr) (S : Sto) : Prop where
  x : Ext B.wd B.H Ψ H
  so : StoOk c Ψ H S
  eo : EnvOk c Ψ σ ρ H F
  fr : ∀ i b, b ∈ F i → B.H b = none
  me : ∀ k fs, ρ[0]? = some (.ownI k fs) → σ[0]? = some (some (.ref B.self))
def OutP (c : Cf) (B : Bs) (D : Ends) : Out → Sto → Prop
  | .nx ρ, S => ∀ Ψ σ H F, Gd c B Ψ σ ρ H F S → D.nx σ H
  | .bk ρ, S => ∀ Ψ σ H F, Gd c B Ψ σ ρ H F S → D.bk σ H
  | .ct ρ, S => ∀ Ψ σ H F, Gd c B Ψ σ ρ H F S → D.ct σ H
  | .ret d, S => ∀ Ψ v H, Ext B.wd B.H Ψ H → StoOk c Ψ H S → Rep c Ψ v d → D.rt v H
def rS (c : Cf) (W : XK) (m : Env → M Out) : TS := fun D σ H => ∃ B Ψ ρ S F, Gd c B Ψ σ ρ H F S ∧ Post c W B.wd B.H (m ρ S) (OutP c B D)
structure SS (c : Cf) (X : Cx) (W : XK) (st : Stmt) (m : Env → M Out) : Prop where
  k : X.K = c.K
  p : PS X st (rS c W m)
structure SSs (c : Cf) (X : Cx) (W : XK) (sts : List Stmt) (m : Env → M Out) : Prop where
  k : X.K = c.K
  p : PSs X sts (rS c W m)
abbrev cW (W : XK) : L2.St → XK := fun _ => W
section
variable {c : Cf} {B : Bs} {Ψ Ψ' : Wd} {σ : L2.St} {ρ : Env} {H H' : Hp} {F : Nat → List Addr} {S S' : Sto}
theorem Gd.ext (g : Gd c B Ψ σ ρ H F S) (x : Ext Ψ H Ψ' H') (s : StoOk c Ψ' H' S') : Gd c B Ψ' σ ρ H' F S' := ⟨g.x.trans x, s, g.eo.ext x, g.fr, g.me⟩
theorem set0 {α : Type} {l : List α} {i : Nat} {x y : α} (h : (l.set i x)[0]? = some y) : (i = 0 ∧ x = y) ∨ (i ≠ 0 ∧ l[0]? = some y) := by
  by_cases z : i = 0
  · subst z
    by_cases hl : 0 < l.length
    · rw [List.getElem?_set_self hl] at h
      exact .inl ⟨rfl, Option.some.inj h⟩
    · rw [List.getElem?_eq_none (by rw [List.length_set]; omega)] at h
      cases h
  · rw [List.getElem?_set_ne z] at h
    exact .inr ⟨z, h⟩
theorem Gd.setV (g : Gd c B Ψ σ ρ H F S) (i : Nat) {v : V} {d : D} (r : Rep c Ψ v d) : Gd c B Ψ (σ.set i (some v)) (ρ.set i (.val d)) H (off F i) S :=
  ⟨g.x, g.so, g.eo.setV i r, fun j b hb => g.fr j b (off_sub hb).1, fun k fs h => by
    rcases set0 h with ⟨_, z⟩ | ⟨n, z⟩
    · cases z
    · rw [List.getElem?_set_ne n]; exact g.me k fs z⟩
theorem Gd.keep0 {σ' : L2.St} {ρ' : Env} {F' : Nat → List Addr} (g : Gd c B Ψ σ ρ H F S) (e : EnvOk c Ψ σ' ρ' H F') (s : ∀ i b, b ∈ F' i → b ∈ F i) (k : Keep0 σ ρ σ' ρ') : Gd c B Ψ σ' ρ' H F' S :=
  ⟨g.x, g.so, e, fun j b hb => g.fr j b (s j b hb), fun kk fs h => by
    obtain ⟨h1, h2⟩ := k kk fs h
    rw [h2]; exact g.me kk fs h1⟩
/-- own things: the frame's place i holds what is at As -/
def onF (F : Nat → List Addr) (i : Nat) (As : List Addr) : Nat → List Addr := fun j => if j = i then As else F j
theorem onF_eq {i : Nat} {As : List Addr} : onF F i As i = As := if_pos rfl
theorem onF_ne {i j : Nat} {As : List Addr} (h : j ≠ i) : onF F i As j = F j := if_neg h
/-- a place is given an own thing -/
theorem EnvOk.setO (e : EnvOk c Ψ σ ρ H F) (i : Nat) (hi : i < ρ.length) {o : Option V} {s : Slot} {As : List Addr} (hs : SlotOk c Ψ H As (some o) s) (hp : ∀ b ∈ As, Ψ.fz b = none ∧ ¬ Foot Ψ b ∧ H b ≠ none)
    (hn : ∀ b ∈ As, ∀ j, j ≠ i → b ∉ F j) : EnvOk c Ψ (σ.set i o) (ρ.set i s) H (onF F i As) := by
  refine ⟨by rw [List.length_set, List.length_set]; exact e.len, fun j s' hs' => ?_, fun j hj => ?_, fun j b hb => ?_, fun a b x ne hx hy => ?_⟩
  · by_cases z : j = i
    · subst z
      rw [List.getElem?_set_self hi] at hs'
      cases hs'
      rw [onF_eq, List.getElem?_set_self (by rw [e.len]; exact hi)]
      exact hs
    · rw [List.getElem?_set_ne (Ne.symm z)] at hs'
      rw [onF_ne z, List.getElem?_set_ne (Ne.symm z)]
      exact e.slot j s' hs'
  · by_cases z : j = i
    · subst z
      rw [List.getElem?_set_self hi] at hj
      cases hj
    · rw [List.getElem?_set_ne (Ne.symm z)] at hj
      rw [onF_ne z]; exact e.out j hj
  · by_cases z : j = i
    · subst z; rw [onF_eq] at hb; exact hp b hb
    · rw [onF_ne z] at hb; exact e.priv j b hb
  · by_cases z : a = i
    · subst z
      rw [onF_eq] at hx
      rw [onF_ne (Ne.symm ne)] at hy
      exact hn x hx b (Ne.symm ne) hy
    · rw [onF_ne z] at hx
      by_cases z2 : b = i
      · subst z2
        rw [onF_eq] at hy
        exact hn x hy a z hx
      · rw [onF_ne z2] at hy
        exact e.sep a b x ne hx hy
theorem Gd.setO (g : Gd c B Ψ σ ρ H F S) (i : Nat) {o : Option V} {s : Slot} {As : List Addr} (hs : SlotOk c Ψ H As (some o) s) (hp : ∀ b ∈ As, Ψ.fz b = none ∧ ¬ Foot Ψ b ∧ H b ≠ none ∧ B.H b = none)
    (hn : ∀ b ∈ As, ∀ j, j ≠ i → b ∉ F j) (h0 : ∀ k fs, s = .ownI k fs → i ≠ 0) : ∃ F', Gd c B Ψ (σ.set i o) (ρ.set i s) H F' S := by
  by_cases hi : i < ρ.length
  · refine ⟨onF F i As, g.x, g.so, g.eo.setO i hi hs (fun b hb => ⟨(hp b hb).1, (hp b hb).2.1, (hp b hb).2.2.1⟩) hn, fun j b hb => ?_, fun k fs h => ?_⟩
    · by_cases z : j = i
      · subst z; rw [onF_eq] at hb; exact (hp b hb).2.2.2
      · rw [onF_ne z] at hb; exact g.fr j b hb
    · rcases set0 h with ⟨z1, z⟩ | ⟨n, z⟩
      · exact absurd z1 (h0 k fs z)
      · rw [List.getElem?_set_ne n]; exact g.me k fs z
  · refine ⟨F, ?_⟩
    have hl := g.eo.len
    rw [List.set_eq_of_length_le (l := σ) (by omega), List.set_eq_of_length_le (l := ρ) (by omega)]
    exact g
/-- a new list for the place i -/
theorem Gd.setN (g : Gd c B Ψ σ ρ H F S) (i : Nat) {a : Addr} {vs : List V} {ds : List D} (x : Ext Ψ H Ψ' H') (so : StoOk c Ψ' H' S') (h : H' a = some (.lst vs)) (l : vs.length ≤ LIM) (r : Reps c Ψ' vs ds) (p : Ψ'.fz a = none) (f : ¬ Foot Ψ' a) (n : H a = none) :
    ∃ F', Gd c B Ψ' (σ.set i (some (.ref a))) (ρ.set i (.own ds)) H' F' S' := by
  refine (g.ext x so).setO i (As := [a]) ⟨a, vs, rfl, rfl, h, l, r⟩ (fun b hb => ?_) (fun b hb j _ hj => ?_) (fun _ _ z => nomatch z)
  · rcases List.mem_singleton.mp hb with rfl
    have h0 : H' b ≠ none := by rw [h]; exact fun z => nomatch z
    exact ⟨p, f, h0, g.x.dom _ n⟩
  · rcases List.mem_singleton.mp hb with rfl
    exact (g.eo.priv j _ hj).2.2 n
/-- another beginning: here -/
noncomputable def hideF (H : Hp) (F : Nat → List Addr) : Hp := fun b => @ite _ (∃ i, b ∈ F i) (Classical.propDecidable _) none (H b)
theorem hideF_in {b : Addr} {i : Nat} (h : b ∈ F i) : hideF H F b = none := by unfold hideF; rw [if_pos ⟨i, h⟩]
theorem hideF_out {b : Addr} (h : ∀ i, b ∉ F i) : hideF H F b = H b := by unfold hideF; rw [if_neg (fun ⟨i, z⟩ => h i z)]
theorem hideF_sub {b : Addr} {o : HO} (h : hideF H F b = some o) : H b = some o := by
  by_cases z : ∃ i, b ∈ F i
  · obtain ⟨i, z⟩ := z
    rw [hideF_in z] at h; cases h
  · rw [hideF_out (fun i hi => z ⟨i, hi⟩)] at h; exact h
theorem hideF_none {b : Addr} (h : H b = none) : hideF H F b = none := by
  cases e : hideF H F b with
  | none => rfl
  | some o => rw [hideF_sub e] at h; cases h
noncomputable def Bs.at (B : Bs) (Ψ : Wd) (H : Hp) (F : Nat → List Addr) : Bs := ⟨Ψ, hideF H F, B.self⟩
theorem Gd.here (g : Gd c B Ψ σ ρ H F S) : Gd c (B.at Ψ H F) Ψ σ ρ H F S :=
  ⟨⟨Le.refl _, fun b h => hideF_none h, fun _ _ h => .inl h, fun _ h => .inl h, fun b o h _ => hideF_sub h⟩, g.so, g.eo, fun i b hb => hideF_in hb, g.me⟩
theorem Gd.there (g : Gd c B Ψ σ ρ H F S) : Ext B.wd B.H (B.at Ψ H F).wd (B.at Ψ H F).H where
  le := g.x.le
  dom := fun b h => by
    by_cases z : ∃ i, b ∈ F i
    · obtain ⟨i, z⟩ := z
      exact g.fr i b z
    · refine g.x.dom b ?_
      have h' : hideF H F b = none := h
      rwa [hideF_out (fun i hi => z ⟨i, hi⟩)] at h'
  nphi := g.x.nphi
  nmu := g.x.nmu
  keep := fun b o h f => by
    have h' := g.x.keep b o h f
    show hideF H F b = _
    rw [hideF_out (fun i hi => by rw [g.fr i b hi] at h; cases h)]
    exact h'
theorem Gd.back {σ' : L2.St} {ρ' : Env} {F' : Nat → List Addr} (g : Gd c B Ψ σ ρ H F S) (h : Gd c (B.at Ψ H F) Ψ' σ' ρ' H' F' S') : Gd c B Ψ' σ' ρ' H' F' S' :=
  ⟨g.there.trans h.x, h.so, h.eo, fun i b hb => g.there.dom b (h.fr i b hb), h.me⟩
/-- the own list at i has changed -/
theorem Gd.upd (g : Gd c B Ψ σ ρ H F S) {i : Nat} {a : Addr} {o : HO} {s s' : Slot} (hs : ρ[i]? = some s) (ha : a ∈ F i) (k : SlotOk c Ψ (L2.upd H a o) (F i) σ[i]? s') (h0 : ∀ kk fs, s' = .ownI kk fs → ∃ k2 f2, s = .ownI k2 f2) :
    Gd c B Ψ σ (ρ.set i s') (L2.upd H a o) F S := by
  have pr := g.eo.priv i a ha
  have hi : i < ρ.length := (List.getElem?_eq_some_iff.mp hs).1
  have nb : ∀ b, H b = none → b ≠ a := fun b hb z => pr.2.2 (by rw [← z]; exact hb)
  refine ⟨g.x.upd (g.fr i a ha), g.so.updF pr.1 pr.2.1, ⟨by rw [List.length_set]; exact g.eo.len, fun j s2 hs2 => ?_, fun j hj => ?_, fun j b hb => ?_, g.eo.sep⟩, g.fr, fun kk fs h => ?_⟩
  · by_cases z : j = i
    · subst z
      rw [List.getElem?_set_self hi] at hs2
      cases hs2
      exact k
    · rw [List.getElem?_set_ne (Ne.symm z)] at hs2
      refine (g.eo.slot j s2 hs2).keep (Le.refl _) fun b hb u hu => ?_
      rw [upd_ne (fun e => g.eo.sep j i b z hb (by rw [e]; exact ha))]
      exact hu
  · by_cases z : j = i
    · subst z
      rw [List.getElem?_set_self hi] at hj
      cases hj
    · rw [List.getElem?_set_ne (Ne.symm z)] at hj
      exact g.eo.out j hj
  · obtain ⟨p1, p2, p3⟩ := g.eo.priv j b hb
    refine ⟨p1, p2, fun z => ?_⟩
    by_cases e : b = a
    · subst e; rw [upd_same] at z; cases z
    · rw [upd_ne e] at z; exact p3 z
  · rcases set0 h with ⟨z1, z⟩ | ⟨n, z⟩
    · subst z1
      obtain ⟨k2, f2, e⟩ := h0 kk fs z
      subst e
      exact g.me k2 f2 hs
    · exact g.me kk fs z
end

/-! ### blocks -/
def seqS (a b : Env → M Out) : Env → M Out := fun ρ => bd (a ρ) fun o => match o with
  | .nx ρ' => b ρ'
  | o => rt o
def nextS : Env → M Out := fun ρ => rt (.nx ρ)
section
variable {c : Cf} {X : Cx} {W : XK} {st : Stmt} {rest sts : List Stmt} {e : Expr} {pos pos' : Pos} {i : Nat} {x : Str}
theorem sss_nil (k : X.K = c.K) : SSs c X W [] nextS := ⟨k, PSs.imp pss_nil fun D σ H ⟨B, Ψ, ρ, S, F, g, q⟩ => q Ψ σ H F g⟩
theorem sss_cons {a b : Env → M Out} (h : SS c X W st a) (t : SSs c X W rest b) : SSs c X W (st :: rest) (seqS a b) := by
  refine ⟨h.k, PSs.imp (pss_cons h.p t.p) fun D σ H ⟨B, Ψ, ρ, S, F, g, q⟩ => ⟨B, Ψ, ρ, S, F, g, q.bd.mono fun o S' q' => ?_⟩⟩
  cases o with
  | nx ρ' => exact fun Ψ σ H F g => ⟨B, Ψ, ρ', S', F, g, q'⟩
  | ret d => exact q'
  | bk ρ' => exact q'
  | ct ρ' => exact q'
theorem sss_one {a : Env → M Out} (h : SS c X W st a) : SSs c X W [st] a := ⟨h.k, PSs.imp (pss_one h.p) fun _ _ _ q => q⟩
/-- the own list at i may no more be changed: it is a value -/
def frzE (i : Nat) (ρ : Env) : Env := match ρ[i]? with
  | some (.own ds) => ρ.set i (.val (.lst ds))
  | _ => ρ
theorem Gd.frz {B : Bs} {Ψ : Wd} {σ : L2.St} {ρ : Env} {H : Hp} {F : Nat → List Addr} {S : Sto} (g : Gd c B Ψ σ ρ H F S) (i : Nat) : ∃ Ψ' F', Gd c B Ψ' σ (frzE i ρ) H F' S := by
  unfold frzE
  split
  · rename_i ds hs
    obtain ⟨a, vs, hF, h1, h2, l, h3⟩ := g.eo.slot i _ hs
    have ha : a ∈ F i := by rw [hF]; simp
    have pr := g.eo.priv i a ha
    have hi : i < ρ.length := (List.getElem?_eq_some_iff.mp hs).1
    have lk : Le Ψ (Ψ.know a (.lst vs)) := Le.know pr.1
    have phi : ∀ b o, (Ψ.know a (.lst vs)).fz b = some o → Ψ.fz b = some o ∨ b = a := fun b o e => by
      by_cases z : b = a
      · exact .inr z
      · have e' : L2.upd Ψ.fz a (.lst vs) b = some o := e
        rw [upd_ne z] at e'
        exact .inl e'
    refine ⟨Ψ.know a (.lst vs), off F i, ⟨g.x.le.trans lk, g.x.dom, fun b o e => ?_, g.x.nmu, g.x.keep⟩, g.so.know h2 pr.1 pr.2.1, ⟨by rw [List.length_set]; exact g.eo.len, fun j s hj => ?_, fun j hj => ?_, fun j b hb => ?_, fun p q b ne hp hq => g.eo.sep p q b ne (off_sub hp).1 (off_sub hq).1⟩, fun j b hb => g.fr j b (off_sub hb).1, fun k fs h => ?_⟩
    · rcases phi b o e with z | rfl
      · exact g.x.nphi b o z
      · exact .inr (g.fr i _ ha)
    · by_cases z : j = i
      · subst z
        rw [List.getElem?_set_self hi] at hj
        cases hj
        exact ⟨off_eq, _, h1, .lst (show L2.upd Ψ.fz a _ a = _ from upd_same) l (h3.mono lk)⟩
      · rw [List.getElem?_set_ne (Ne.symm z)] at hj
        rw [off_ne z]
        exact (g.eo.slot j s hj).keep lk fun _ _ _ h => h
    · by_cases z : j = i
      · subst z; exact off_eq
      · rw [List.getElem?_set_ne (Ne.symm z)] at hj
        rw [off_ne z]; exact g.eo.out j hj
    · obtain ⟨hb1, hb2⟩ := off_sub hb
      obtain ⟨p1, p2, p3⟩ := g.eo.priv j b hb1
      refine ⟨?_, p2, p3⟩
      have z : b ≠ a := fun e => g.eo.sep j i b hb2 hb1 (by rw [e]; exact ha)
      show L2.upd Ψ.fz a (.lst vs) b = none
      rw [upd_ne z]; exact p1
    · rcases set0 h with ⟨_, z⟩ | ⟨n, z⟩
      · cases z
      · exact g.me k fs z
  · exact ⟨Ψ, F, g⟩
def frzS : List Nat → Env → Env
  | [], ρ => ρ
  | i :: is, ρ => frzS is (frzE i ρ)
theorem Gd.frzs {B : Bs} {σ : L2.St} {H : Hp} {S : Sto} : ∀ (is : List Nat) {Ψ : Wd} {ρ : Env} {F : Nat → List Addr}, Gd c B Ψ σ ρ H F S → ∃ Ψ' F', Gd c B Ψ' σ (frzS is ρ) H F' S
  | [], Ψ, _, F, g => ⟨Ψ, F, g⟩
  | i :: is, _, _, _, g => by
    obtain ⟨Ψ1, F1, g1⟩ := g.frz i
    exact Gd.frzs is g1
theorem ss_frz (is : List Nat) {a : Env → M Out} (h : SS c X W st a) : SS c X W st (fun ρ => a (frzS is ρ)) :=
  ⟨h.k, PS.imp h.p fun D σ H ⟨B, Ψ, ρ, S, F, g, q⟩ => by
    obtain ⟨Ψ', F', g'⟩ := g.frzs is
    exact ⟨B, Ψ', frzS is ρ, S, F', g', q⟩⟩
theorem ss_if {c' : Expr} {a b : List Stmt} {mt : Env → M Bool} {ma mb : Env → M Out} (ht : ST c X (cW W) c' mt) (ha : SSs c X W a ma) (hb : SSs c X W b mb) : SS c X W (.If c' a b pos) (fun ρ => bd (mt ρ) fun t => iteM t (ma ρ) (mb ρ)) := by
  refine ⟨ht.k, PS.imp (ps_if ht.p ha.p hb.p) fun D σ H ⟨B, Ψ, ρ, S, F, g, q⟩ => ⟨Ψ, ρ, S, F, g.so, g.eo, (q.bd.ext g.x).mono fun t S1 q1 Ψ1 H1 x1 s1 => ?_⟩⟩
  cases t with
  | true => exact ⟨B, Ψ1, ρ, S1, F, g.ext x1 s1, q1⟩
  | false => exact ⟨B, Ψ1, ρ, S1, F, g.ext x1 s1, q1⟩
theorem ss_never (k : X.K = c.K) : SS c X W st (fun _ => stk) := ⟨k, PS.imp ps_never fun D σ H ⟨B, Ψ, ρ, S, F, g, q⟩ => q⟩
theorem ss_pass (k : X.K = c.K) : SS c X W (.Pass pos) nextS := ⟨k, PS.imp ps_pass fun D σ H ⟨B, Ψ, ρ, S, F, g, q⟩ => q Ψ σ H F g⟩
theorem ss_break (k : X.K = c.K) : SS c X W (.Break pos) (fun ρ => rt (.bk ρ)) := ⟨k, PS.imp ps_break fun D σ H ⟨B, Ψ, ρ, S, F, g, q⟩ => q Ψ σ H F g⟩
theorem ss_cont (k : X.K = c.K) : SS c X W (.Continue pos) (fun ρ => rt (.ct ρ)) := ⟨k, PS.imp ps_continue fun D σ H ⟨B, Ψ, ρ, S, F, g, q⟩ => q Ψ σ H F g⟩
theorem ss_ret {m : Env → M D} (h : SE c X (cW W) e m) : SS c X W (.Return (some e) pos) (fun ρ => bd (m ρ) fun d => rt (.ret d)) :=
  ⟨h.k, PS.imp (ps_ret h.p) fun D σ H ⟨B, Ψ, ρ, S, F, g, q⟩ => ⟨Ψ, ρ, S, F, g.so, g.eo, (q.bd.ext g.x).mono fun d S1 q1 Ψ1 v H1 x1 s1 r1 => q1 Ψ1 v H1 (g.x.trans x1) s1 r1⟩⟩
theorem ss_retN (k : X.K = c.K) : SS c X W (.Return none pos) (fun _ => rt (.ret .non)) := ⟨k, PS.imp ps_retN fun D σ H ⟨B, Ψ, ρ, S, F, g, q⟩ => q Ψ .non H g.x g.so .non⟩
theorem ss_expr {m : Env → M D} (h : SE c X (cW W) e m) (hs : swapsWith e none pos.line X.env = pure false := by rfl) : SS c X W (.Expr e pos) (fun ρ => bd (m ρ) fun _ => rt (.nx ρ)) :=
  ⟨h.k, PS.imp (ps_expr h.p hs) fun D σ H ⟨B, Ψ, ρ, S, F, g, q⟩ => ⟨Ψ, ρ, S, F, g.so, g.eo, (q.bd.ext g.x).mono fun d S1 q1 Ψ1 v H1 x1 s1 r1 => q1 Ψ1 σ H1 F (g.ext x1 s1)⟩⟩
theorem ss_set {m : Env → M D} (h : SE c X (cW W) e m) (hN : X.N.Nodup) (hi : X.N[i]? = some x := by rfl) (hx : Loc X.env.scope x := by first | exact Or.inl rfl | exact Or.inr rfl) (hs : swapsWith e (some (.Name x pos')) pos.line X.env = pure false := by rfl) (hf : X.fn x = true ∨ X.env.scope.names.lookup x = some .local := by first | exact .inl rfl | exact .inr rfl) :
    SS c X W (.Assign [.Name x pos'] e pos) (fun ρ => bd (m ρ) fun d => rt (.nx (ρ.set i (.val d)))) :=
  ⟨h.k, PS.imp (ps_set hN hi hx h.p hs hf) fun D σ H ⟨B, Ψ, ρ, S, F, g, q⟩ => ⟨Ψ, ρ, S, F, g.so, g.eo, (q.bd.ext g.x).mono fun d S1 q1 Ψ1 v H1 x1 s1 r1 => q1 Ψ1 _ H1 _ ((g.ext x1 s1).setV i r1)⟩⟩
theorem ss_setN {m : Env → M (List D)} (h : SN c X (cW W) e m) (hN : X.N.Nodup) (hi : X.N[i]? = some x := by rfl) (hx : Loc X.env.scope x := by first | exact Or.inl rfl | exact Or.inr rfl) (hs : swapsWith e (some (.Name x pos')) pos.line X.env = pure false := by rfl) (hf : X.fn x = true ∨ X.env.scope.names.lookup x = some .local := by first | exact .inl rfl | exact .inr rfl) :
    SS c X W (.Assign [.Name x pos'] e pos) (fun ρ => bd (m ρ) fun ds => rt (.nx (ρ.set i (.own ds)))) :=
  ⟨h.k, PS.imp (ps_set hN hi hx h.p hs hf) fun D σ H ⟨B, Ψ, ρ, S, F, g, q⟩ => ⟨Ψ, ρ, S, F, g.so, g.eo, (q.bd.ext g.x).mono fun ds S1 q1 Ψ1 a vs H1 x1 s1 h1 l1 r1 p1 f1 n1 => by
    obtain ⟨F', g'⟩ := g.setN i x1 s1 h1 l1 r1 p1 f1 n1
    exact q1 Ψ1 _ H1 F' g'⟩⟩
/-- a, b, .. = a tuple -/
theorem ss_asgT {m : Env → M D} {tg : Expr} {t : Tg} (h : SE c X (cW W) e m) (ht : SG X tg t) (hs : swapsWithSole [tg] e pos.line X.env = pure false := by rfl) (hw : swappedStores [tg] e X.env = pure none := by rfl)
    (h1 : (assignEach [tg] X.env).map (·.2) = [assign tg X.env] := by rfl) : SS c X W (.Assign [tg] e pos) (fun ρ => bd (m ρ) fun d => match bindD t d ρ with
      | some ρ' => rt (.nx ρ')
      | none => stk) := by
  refine ⟨h.k, PS.imp (ps_asg h.p ht.p hs hw h1) fun D σ H ⟨B, Ψ, ρ, S, F, g, q⟩ => ⟨Ψ, ρ, S, F, g.so, g.eo, (q.bd.ext g.x).mono fun d S1 q1 Ψ1 v H1 x1 s1 r1 => ?_⟩⟩
  cases hb : bindD t d ρ with
  | none => rw [hb] at q1; exact q1.elim
  | some ρ' =>
    rw [hb] at q1
    rw [h.k]
    have g1 := g.ext x1 s1
    exact bind_ok s1 g1.eo r1 hb fun σ' F' e' s' _ k' => q1 Ψ1 σ' H1 F' (g1.keep0 e' s' k')
end

/-! ### loops -/
def forM (t : Tg) (b : Env → M Out) : List D → Env → M Out
  | [], ρ => rt (.nx ρ)
  | d :: ds, ρ => match bindD t d ρ with
    | none => stk
    | some ρ' => bd (b ρ') fun o => match o with
      | .nx ρ2 => forM t b ds ρ2
      | .ct ρ2 => forM t b ds ρ2
      | .bk ρ2 => rt (.nx ρ2)
      | .ret d => rt (.ret d)
def whM (t : Env → M Bool) (b : Env → M Out) : Nat → Env → M Out
  | 0, _ => stk
  | n + 1, ρ => bd (t ρ) fun x => iteM x (bd (b ρ) fun o => match o with
      | .nx ρ2 => whM t b n ρ2
      | .ct ρ2 => whM t b n ρ2
      | .bk ρ2 => rt (.nx ρ2)
      | .ret d => rt (.ret d)) (rt (.nx ρ))
section
variable {c : Cf} {X : Cx} {W : XK} {pos : Pos} {tg iter : Expr} {body : List Stmt} {t : Tg}
theorem ss_for {mi : Env → M (List D)} {mb : Env → M Out} (hi : SI c X (cW W) tg iter mi) (ht : SG X tg t) (hb : SSs c X W body mb) (hp : PassesOwn (model X.prog X.w) X.A X.env X.xe) (hc : X.calm = true := by rfl)
    (hs : ∀ x, foldedSetIterable iter X.env x = pure x := by intro _; rfl) : SS c X W (.For tg iter body [] pos) (fun ρ => bd (mi ρ) fun ds => forM t mb ds ρ) := by
  refine ⟨hi.k, PS.imp (ps_for hp hc hi.p ht.p hb.p hs) fun D σ H ⟨B, Ψ, ρ, S, F, g, q⟩ => ⟨Ψ, ρ, S, F, g.so, g.eo, (q.bd.ext g.x).mono fun ds S1 q1 Ψ1 J H1 x1 s1 it => ?_⟩⟩
  obtain ⟨hl, G, Y, wk, hG, hY⟩ := it
  have g1 := g.ext x1 s1
  have ex : Ext B.wd B.H (B.at Ψ1 H1 F).wd (B.at Ψ1 H1 F).H := g1.there
  refine for_it wk (fun i σ2 H2 => ∃ Ψ2 ρ2 S2 F2, Gd c (B.at Ψ1 H1 F) Ψ2 σ2 ρ2 H2 F2 S2 ∧ Post c W B.wd B.H (forM t mb (ds.drop i) ρ2 S2) (OutP c B D)) ?_ ?_ ?_ ?_
  · exact ⟨Ψ1, ρ, S1, F, g1.here, q1⟩
  · rintro i σ2 H2 _ ⟨Ψ2, ρ2, S2, F2, g2, _⟩
    exact hG Ψ2 S2 H2 g2.x.le g2.so
  · rintro i x σ2 H2 H3 hlt ⟨Ψ2, ρ2, S2, F2, g2, q2⟩ y
    have hd : ds[i]? = some ds[i] := List.getElem?_eq_getElem hlt
    obtain ⟨Ψ3, x3, s3, r3⟩ := hY i H2 x H3 Ψ2 S2 _ g2.x.le g2.so hd y
    rw [List.drop_eq_getElem_cons hlt] at q2
    unfold forM at q2
    have g3 := g2.ext x3 s3
    cases hb' : bindD t ds[i] ρ2 with
    | none => rw [hb'] at q2; exact q2.elim
    | some ρ' =>
      rw [hb'] at q2
      rw [hi.k]
      refine bind_ok s3 g3.eo r3 hb' fun σ' F' e' sb _ k' => ?_
      have g4 := g3.keep0 e' sb k'
      refine ⟨B.at Ψ1 H1 F, Ψ3, ρ', S2, F', g4, ((Post.bd q2).ext ex).mono fun o S4 q4 => ?_⟩
      cases o with
      | nx ρ4 => exact fun Ψ4 σ4 H4 F4 g4 => ⟨Ψ4, ρ4, S4, F4, g4, q4⟩
      | ct ρ4 => exact fun Ψ4 σ4 H4 F4 g4 => ⟨Ψ4, ρ4, S4, F4, g4, q4⟩
      | bk ρ4 => exact fun Ψ4 σ4 H4 F4 g4 => q4 Ψ4 σ4 H4 F4 (g1.back g4)
      | ret d => exact fun Ψ4 v H4 x4 s4 r4 => q4 Ψ4 v H4 (ex.trans x4) s4 r4
  · rintro σ2 H2 ⟨Ψ2, ρ2, S2, F2, g2, q2⟩
    rw [List.drop_eq_nil_of_le (Nat.le_refl _)] at q2
    exact q2 Ψ2 σ2 H2 F2 (g1.back g2)
theorem ss_while {cond : Expr} {mt : Env → M Bool} {mb : Env → M Out} (n : Nat) (ht : ST c X (cW W) cond mt) (hb : SSs c X W body mb) (hp : PassesOwn (model X.prog X.w) X.A X.env X.xe) : SS c X W (.While cond body [] pos) (fun ρ => whM mt mb n ρ) := by
  refine ⟨ht.k, PS.imp (ps_while hp ht.p hb.p) fun D σ H ⟨B, Ψ, ρ, S, F, g, q⟩ => ?_⟩
  refine ⟨fun n σ2 H2 => ∃ Ψ2 ρ2 S2 F2, Gd c B Ψ2 σ2 ρ2 H2 F2 S2 ∧ Post c W B.wd B.H (whM mt mb n ρ2 S2) (OutP c B D), ⟨n, Ψ, ρ, S, F, g, q⟩, ?_⟩
  rintro n σ2 H2 ⟨Ψ2, ρ2, S2, F2, g2, q2⟩
  cases n with
  | zero => exact q2.elim
  | succ n =>
    unfold whM at q2
    refine ⟨Ψ2, ρ2, S2, F2, g2.so, g2.eo, ((Post.bd q2).ext g2.x).mono fun b S3 q3 Ψ3 H3 x3 s3 => ?_⟩
    have g3 := g2.ext x3 s3
    cases b with
    | false =>
      show if false = true then _ else _
      rw [if_neg Bool.false_ne_true]
      exact q3 Ψ3 σ2 H3 F2 g3
    | true =>
      show if true = true then _ else _
      rw [if_pos rfl]
      refine ⟨fun σ' H' => ∃ Ψ2 ρ2 S2 F2, Gd c B Ψ2 σ' ρ2 H' F2 S2 ∧ Post c W B.wd B.H (whM mt mb n ρ2 S2) (OutP c B D), fun σ' H' h => ⟨n, Nat.lt_succ_self n, h⟩, ?_⟩
      refine ⟨B, Ψ3, ρ2, S3, F2, g3, (Post.bd q3).mono fun o S4 q4 => ?_⟩
      cases o with
      | nx ρ4 => exact fun Ψ4 σ4 H4 F4 g4 => ⟨Ψ4, ρ4, S4, F4, g4, q4⟩
      | ct ρ4 => exact fun Ψ4 σ4 H4 F4 g4 => ⟨Ψ4, ρ4, S4, F4, g4, q4⟩
      | bk ρ4 => exact q4
      | ret d => exact q4
end
end Sm

/-! text: Sim9 -/
set_option Elab.async false
set_option linter.all false
set_option maxRecDepth 100000
set_option maxHeartbeats 1000000
namespace Sm
open PySem PySem.Spec PyProof.Rows L2

/-! ### a def by its body -/
def outM (o : Out) : M D := match o with
  | .nx _ => rt .non
  | .ret d => rt d
  | _ => stk
def fnM (n : Nat) (mb : Env → M Out) (ds : List D) : M D := bd (mb (ds.map Slot.val ++ List.replicate (n - ds.length) .no)) outM
theorem env_start {c : Cf} {Ψ : Wd} {H : Hp} {N : List Str} {vs : List V} {ds : List D} (r : Reps c Ψ vs ds) : EnvOk c Ψ (L2.start N vs) (ds.map Slot.val ++ List.replicate (N.length - ds.length) .no) H (fun _ => []) := by
  have hl := r.length
  refine ⟨by unfold L2.start; rw [List.length_append, List.length_append, List.length_map, List.length_map, List.length_replicate, List.length_replicate, hl], fun i s hs => ?_, fun _ _ => rfl, fun _ _ h => (by cases h), fun _ _ _ _ h => (by cases h)⟩
  by_cases hi : i < ds.length
  · rw [List.getElem?_append_left (by rw [List.length_map]; exact hi), List.getElem?_map] at hs
    cases hd : ds[i]? with
    | none => rw [hd] at hs; cases hs
    | some d =>
      rw [hd] at hs
      cases hs
      obtain ⟨v, hv, rv⟩ := r.get hd
      refine ⟨rfl, v, ?_, rv⟩
      unfold L2.start
      rw [List.getElem?_append_left (by rw [List.length_map, hl]; exact hi), List.getElem?_map, hv]
      rfl
  · rw [List.getElem?_append_right (by rw [List.length_map]; omega), List.getElem?_replicate] at hs
    split at hs
    · cases hs
      exact rfl
    · cases hs
theorem env_no {n : Nat} {ds : List D} {k : Nat} {fs : List (Option D)} (h : (ds.map Slot.val ++ List.replicate n .no)[0]? = some (.ownI k fs)) : False := by
  cases ds with
  | nil =>
    cases n with
    | zero => cases h
    | succ n => cases h
  | cons d ds => cases h
section
variable {c : Cf} {P : Program} {w : World} {mg : Str → Option Value} {base : Heap} {x qual : Str} {params : Arguments} {body : List Stmt} {scope : Scope} {dvs : List V} {kws : List (Str × V)} {f : Addr} {fd : FuncData} {N ps : List Str} {k : Nat} {mb : Env → M Out}
theorem fnOk_mk (F : FunD c.K x qual params body scope dvs kws f fd) (sc : FnScope N ps scope)
    (hbody : ∀ (cdv : Value) (A : Around) (outer : List PySem.Env) (s : Shared) (H : Hp) (E : XK), Room k (A.deeper (envOfC qual scope s.heap.objs.size f cdv)) → SSs c (cxOf (L2.CX P w) P w c.K mg base N qual scope f cdv A outer s H E) E body mb) :
    FnOk P w c.K mg base (L2.CX P w) (k + 1) f fd ps (PromF c ps.length (fnM N.length mb)) := by
  refine F.ok sc (fun vs H Q E h => h.len) fun cdv A outer s H vs Q E hr h => ⟨_, (hbody cdv A outer s H E hr).p, ?_⟩
  obtain ⟨Ψ, S, ds, so, r, l, q⟩ := h
  refine ⟨⟨Ψ, H, 0⟩, Ψ, _, S, fun _ => [], ⟨Ext.refl _ _, so, env_start r, fun _ _ h => (by cases h), fun k fs h => (env_no h).elim⟩, (Post.bd q).mono fun o S' q' => ?_⟩
  cases o with
  | nx ρ => exact fun Ψ' σ' H' F' g => q' Ψ' .non H' g.x g.so .non
  | ret d => exact q'
  | bk ρ => exact q'.elim
  | ct ρ => exact q'.elim
theorem fn_mk (F : FunD c.K x qual params body scope dvs kws f fd) (sc : FnScope N ps scope) (hb : Binds c.K fd ps [])
    (hbody : ∀ (cdv : Value) (A : Around) (outer : List PySem.Env) (s : Shared) (H : Hp) (E : XK), Room k (A.deeper (envOfC qual scope s.heap.objs.size f cdv)) → SSs c (cxOf (L2.CX P w) P w c.K mg base N qual scope f cdv A outer s H E) E body mb) :
    Fn c P w mg base (k + 1) f ps.length (fnM N.length mb) := by
  refine ⟨?_, F.kp⟩
  have q := (fnOk_mk F sc hbody).raw hb .nil
  exact q.imp fun vs H Q E h => by rw [List.append_nil]; exact h
theorem Fn.mono {n : Nat} {m : List D → M D} {j k : Nat} (F : Fn c P w mg base j f n m) (h : j ≤ k) : Fn c P w mg base k f n m := ⟨F.r.mono h, F.kp⟩
/-- what leaves a def is taken -/
theorem tk_def {cd : Value} {A : Around} {outer : List PySem.Env} {s : Shared} {H : Hp} {E : XK} : Takes (cxOf (L2.CX P w) P w c.K mg base N qual scope f cd A outer s H E) (wx (cW E)) := takes_of rfl rfl rfl rfl
theorem pa_def {cd : Value} {A : Around} {outer : List PySem.Env} {s : Shared} {H : Hp} {E : XK} : PassesOwn (model (cxOf (L2.CX P w) P w c.K mg base N qual scope f cd A outer s H E).prog (cxOf (L2.CX P w) P w c.K mg base N qual scope f cd A outer s H E).w) (cxOf (L2.CX P w) P w c.K mg base N qual scope f cd A outer s H E).A (cxOf (L2.CX P w) P w c.K mg base N qual scope f cd A outer s H E).env (cxOf (L2.CX P w) P w c.K mg base N qual scope f cd A outer s H E).xe := passes_of rfl
/-- within a comprehension nothing is let out -/
theorem tk_in {X : Cx} : Takes X (wx WF) := takes0
end

/-! ### isinstance -/
/-- the name of the type -/
def tyN : D → Option String
  | .non => some "NoneType"
  | .bl _ => some "bool"
  | .int _ => some "int"
  | .str _ => some "str"
  | .tup _ => some "tuple"
  | .lst _ => some "list"
  | .scr _ => some "list"
  | .dct _ => some "dict"
  | _ => none
def kitD (a b : String) : Option Bool := match a, b with
  | "bool", "int" => some true
  | a, b => if ["int", "bool", "str", "tuple", "list", "dict"].contains b = true then some (a == b) else none
def isiD : List D → Sto → Option D := fun ds S => match ds with
  | [d, .ty n] => (tyN d).bind fun a => (kitD a n).map D.bl
  | _ => none
theorem kitD_ok {a b : String} {r : Bool} (ha : ["NoneType", "bool", "int", "str", "tuple", "list", "dict"].contains a = true) (h : kitD a b = some r) : L2.kitB a b = some r := by
  have hb : b ∈ ["int", "bool", "str", "tuple", "list", "dict"] := by
    unfold kitD at h
    split at h
    · simp
    · split at h
      · rename_i q
        simpa using q
      · cases h
  have ha' : a ∈ ["NoneType", "bool", "int", "str", "tuple", "list", "dict"] := by simpa using ha
  have key : ∀ a ∈ ["NoneType", "bool", "int", "str", "tuple", "list", "dict"], ∀ b ∈ ["int", "bool", "str", "tuple", "list", "dict"], L2.kitB a b = kitD a b := by decide +kernel
  rw [key a ha' b hb]
  exact h
theorem ty_of {c : Cf} {Ψ : Wd} {H : Hp} {S : Sto} {v : V} {d : D} {a : String} (so : StoOk c Ψ H S) (r : RepH c Ψ H v d) (h : tyN d = some a) : L2.TyX c.K H v (.type a) ∧ ["NoneType", "bool", "int", "str", "tuple", "list", "dict"].contains a = true := by
  have key : ∀ x, ["NoneType", "bool", "int", "str", "tuple", "list", "dict"].contains x = true → x = a → ["NoneType", "bool", "int", "str", "tuple", "list", "dict"].contains a = true := fun x h e => by rw [← e]; exact h
  rcases r with r | ⟨b, vs, ds, rfl, rfl, h1, _, _⟩
  · cases r with
    | non => cases h; exact ⟨.base .non, by decide⟩
    | bl x => cases h; exact ⟨.base (.bl x), by decide⟩
    | int x => cases h; exact ⟨.base (.int x), by decide⟩
    | str x => cases h; exact ⟨.base (.str x), by decide⟩
    | tup q l r =>
      cases h
      refine ⟨?_, by decide⟩
      rcases sqT_phi so q with (q | ⟨o, q⟩) | ⟨o, its, n, q1, q2, _⟩
      · exact .base (.tup q)
      · exact .fTuple q
      · exact .kTuple q1 q2
    | lst q l r => cases h; exact ⟨.base (.lst (so.phi _ _ q)), by decide⟩
    | scr q l r =>
      cases h
      refine ⟨?_, by decide⟩
      rcases sqL_phi so q with (q | ⟨o, q⟩) | ⟨o, its, n, q1, q2, _⟩
      · exact .base (.lst q)
      · exact .base (.frz q)
      · exact .kList q1 q2
    | dct q e r => cases h; exact ⟨.base (.dK (so.phi _ _ q)), by decide⟩
    | _ => cases h
  · cases h
    exact ⟨.base (.lst h1), by decide⟩
theorem vc_isi {c : Cf} : VC c (L2.rIsi c.K) isiD := by
  intro Ψ H S xs ds d Q s r e q
  unfold isiD at e
  split at e
  · rename_i d0 n
    cases ha : tyN d0 with
    | none => rw [ha] at e; cases e
    | some a =>
      rw [ha] at e
      have e' : (kitD a n).map D.bl = some d := e
      cases hb : kitD a n with
      | none => rw [hb] at e'; cases e'
      | some b =>
        rw [hb] at e'
        cases e'
        obtain ⟨v, v', rfl, r1, r2⟩ := r.two
        obtain ⟨t1, t2⟩ := ty_of s r1 ha
        have ev : v' = .ty n := by
          rcases r2 with r2 | ⟨_, _, _, _, z, _⟩
          · cases r2; rfl
          · cases z
        subst ev
        exact ⟨v, .ty n, _, _, b, rfl, .ty n, t1, L2.kit_ty (kitD_ok t2 hb), fin0 s q (.bl b)⟩
  · cases e
/-- the own classes, by number: 0 .. n - 1 -/
structure CF (c : Cf) (n : Nat) : Prop where
  sc : ∀ k, k < n → SlX.SCls c.K (c.cls k)
  si : ∀ k, k < n → SlX.SIsi c.K (c.cls k)
  kt : ∀ k j, k < n → j < n → PySem.W.kitOne c.K (.ref (c.cls k)) (.ref (c.cls j)) = some (decide (k = j))
  kb : ∀ j, j < n → ∀ a, a ∈ ["NoneType", "bool", "int", "str", "tuple", "list", "dict"] → PySem.W.kitOne c.K (.type a) (.ref (c.cls j)) = some false
/-- isinstance(x, an own class) -/
def isoD (n : Nat) : List D → Sto → Option D := fun ds _ => match ds with
  | [.ins k _, .cls j] => if k < n ∧ j < n then some (.bl (decide (k = j))) else none
  | [d, .cls j] => match tyN d with
    | some _ => if j < n then some (.bl false) else none
    | none => none
  | _ => none
theorem vc_iso {c : Cf} {n : Nat} (C : CF c n) : VC c (fun xs H Q => (∃ u, SlX.rIsiSl c.K u xs H Q) ∨ L2.rIsi c.K xs H Q) (isoD n) := by
  intro Ψ H S xs ds d Q s r e q
  unfold isoD at e
  split at e
  · rename_i k fs j
    split at e
    · cases e
      rename_i z
      obtain ⟨v, v', rfl, r1, r2⟩ := r.two
      have ev : v' = .ref (c.cls j) := by
        rcases r2 with r2 | ⟨_, _, _, _, z, _⟩
        · cases r2; rfl
        · cases z
      subst ev
      rcases r1 with r1 | ⟨_, _, _, _, z, _⟩
      · cases r1 with
        | ins h rs =>
          rename_i a dx vs
          have hs : SlX.Slt H a (c.cls k) dx (vs.map some) := Slt.keep h fun b _ o ho => s.phi b o ho
          exact .inl ⟨.ref (c.cls j), a, c.cls k, dx, _, .ref (c.cls j), _, rfl, rfl, fun w hw => hw, hs, C.sc k z.1, C.si k z.1, C.kt k j z.1 z.2, fin0 s q (.bl _)⟩
      · cases z
    · cases e
  · rename_i d0 j _
    split at e
    · rename_i a ha
      split at e
      · rename_i hj
        cases e
        obtain ⟨v, v', rfl, r1, r2⟩ := r.two
        obtain ⟨t1, t2⟩ := ty_of s r1 ha
        have ev : v' = .ref (c.cls j) := by
          rcases r2 with r2 | ⟨_, _, _, _, z, _⟩
          · cases r2; rfl
          · cases z
        subst ev
        exact .inr ⟨v, _, _, _, false, rfl, .own _, t1, C.kb j hj a (by simpa using t2), fin0 s q (.bl _)⟩
      · cases e
    · cases e
  · cases e
theorem call_iso {X : Cx} : CallR X (.builtin "isinstance") (fun xs H Q => (∃ u, SlX.rIsiSl X.K u xs H Q) ∨ L2.rIsi X.K xs H Q) := by
  intro pins s σ H xs us Q I r h
  rcases h with ⟨u, h⟩ | h
  · exact SlX.call_isiSl u pins s σ H xs us Q I r h
  · exact L2.call_isi pins s σ H xs us Q I r h
end Sm

/-! text: Sim10 -/
set_option Elab.async false
set_option linter.all false
set_option maxRecDepth 100000
set_option maxHeartbeats 1000000
namespace Sm
open PySem PySem.Spec PyProof.Rows L2

/-! ### several new things at once -/
/-- values and new lists (at As) -/
inductive MReps (c : Cf) (Ψ : Wd) (H0 H : Hp) : List V → List Slot → List Addr → Prop
  | nil : MReps c Ψ H0 H [] [] []
  | val {v : V} {d : D} {vs : List V} {ss : List Slot} {As : List Addr} (h : Rep c Ψ v d) (t : MReps c Ψ H0 H vs ss As) : MReps c Ψ H0 H (v :: vs) (.val d :: ss) As
  | own {a : Addr} {xs : List V} {ds : List D} {vs : List V} {ss : List Slot} {As : List Addr} (h : H a = some (.lst xs)) (l : xs.length ≤ LIM) (r : Reps c Ψ xs ds) (p : Ψ.fz a = none) (f : ¬ Foot Ψ a) (n : H0 a = none) (na : a ∉ As)
      (t : MReps c Ψ H0 H vs ss As) : MReps c Ψ H0 H (.ref a :: vs) (.own ds :: ss) (a :: As)
def rAM (c : Cf) (W : L2.St → XK) (m : Env → M (List Slot)) : TA := fun σ H Q => ∃ Ψ ρ S F, StoOk c Ψ H S ∧ EnvOk c Ψ σ ρ H F ∧
  Post c (W σ) Ψ H (m ρ S) fun ss S' => ∀ Ψ' vs As H', Ext Ψ H Ψ' H' → StoOk c Ψ' H' S' → MReps c Ψ' H H' vs ss As → Q vs H'
structure SAM (c : Cf) (X : Cx) (W : L2.St → XK) (es : List Expr) (m : Env → M (List Slot)) : Prop where
  k : X.K = c.K
  p : PA X es (rAM c W m)
section
variable {c : Cf} {X : Cx} {W : L2.St → XK} {e : Expr} {es : List Expr}
theorem MReps.mem {Ψ : Wd} {H0 H : Hp} {vs : List V} {ss : List Slot} {As : List Addr} (h : MReps c Ψ H0 H vs ss As) : ∀ b ∈ As, H0 b = none ∧ Ψ.fz b = none ∧ ¬ Foot Ψ b ∧ H b ≠ none := by
  induction h with
  | nil => intro b hb; cases hb
  | val _ _ ih => exact ih
  | own h l r p f n na t ih =>
    intro b hb
    rcases List.mem_cons.mp hb with rfl | hb
    · exact ⟨n, p, f, by rw [h]; exact fun z => nomatch z⟩
    · exact ih b hb
/-- seen from further back -/
theorem MReps.back {Ψ : Wd} {H00 H0 H : Hp} {vs : List V} {ss : List Slot} {As : List Addr} (h : MReps c Ψ H0 H vs ss As) (k : ∀ b, H0 b = none → H00 b = none) : MReps c Ψ H00 H vs ss As := by
  induction h with
  | nil => exact .nil
  | val h _ ih => exact .val h ih
  | own h l r p f n na t ih => exact .own h l r p f (k _ n) na ih
theorem sam_nil (k : X.K = c.K) : SAM c X W [] (fun _ => rt []) := ⟨k, PA.imp pa_nil fun σ H Q ⟨Ψ, ρ, S, F, so, eo, q⟩ => q Ψ [] [] H (Ext.refl _ _) so .nil⟩
theorem sam_val {m : Env → M D} {ms : Env → M (List Slot)} (h : SE c X W e m) (t : SAM c X W es ms) (hs : starEach (e :: es) X.env = (false, eval e X.env) :: starEach es X.env := by rfl) :
    SAM c X W (e :: es) (fun ρ => bd (m ρ) fun d => bd (ms ρ) fun ss => rt (.val d :: ss)) := by
  refine ⟨h.k, PA.imp (pa_cons h.p t.p hs) fun σ H Q ⟨Ψ, ρ, S, F, so, eo, q⟩ => ⟨Ψ, ρ, S, F, so, eo, q.bd.mono fun d S1 q1 Ψ1 x H1 e1 so1 r1 => ?_⟩⟩
  refine ⟨Ψ1, ρ, S1, F, so1, eo.ext e1, (q1.ext e1).bd.mono fun ss S2 q2 Ψ2 xs As H2 e2 so2 r2 => ?_⟩
  exact q2 Ψ2 _ As H2 (e1.trans e2) so2 (.val (r1.mono e2.le) (r2.back e1.dom))
theorem sam_own {m : Env → M (List D)} {ms : Env → M (List Slot)} (h : SN c X W e m) (t : SAM c X W es ms) (hs : starEach (e :: es) X.env = (false, eval e X.env) :: starEach es X.env := by rfl) :
    SAM c X W (e :: es) (fun ρ => bd (m ρ) fun ds => bd (ms ρ) fun ss => rt (.own ds :: ss)) := by
  refine ⟨h.k, PA.imp (pa_cons h.p t.p hs) fun σ H Q ⟨Ψ, ρ, S, F, so, eo, q⟩ => ⟨Ψ, ρ, S, F, so, eo, q.bd.mono fun ds S1 q1 Ψ1 a vs H1 e1 so1 h1 l1 r1 p1 f1 n1 => ?_⟩⟩
  refine ⟨Ψ1, ρ, S1, F, so1, eo.ext e1, (q1.ext e1).bd.mono fun ss S2 q2 Ψ2 xs As H2 e2 so2 r2 => ?_⟩
  have fr := e2.free p1 f1 (by rw [h1]; exact fun z => nomatch z)
  refine q2 Ψ2 _ (a :: As) H2 (e1.trans e2) so2 (.own (e2.keep _ _ h1 f1) l1 (r1.mono e2.le) fr.1 fr.2 n1 (fun z => ?_) (r2.back e1.dom))
  have := (r2.mem a z).1
  rw [h1] at this
  cases this
def setsM : Env → List Nat → List Slot → Env
  | ρ, i :: is, s :: ss => setsM (ρ.set i s) is ss
  | ρ, _, _ => ρ
theorem Gd.setsM {B : Bs} {Ψ : Wd} {H0 H : Hp} {S : Sto} (bk : ∀ b, H0 b = none → B.H b = none) {vs : List V} {ss : List Slot} {As : List Addr} (h : MReps c Ψ H0 H vs ss As) :
    ∀ {is : List Nat} {σ : L2.St} {ρ : Env} {F : Nat → List Addr}, Gd c B Ψ σ ρ H F S → (∀ b ∈ As, ∀ j, b ∉ F j) → ∃ F', Gd c B Ψ (setsS σ is vs) (Sm.setsM ρ is ss) H F' S := by
  induction h with
  | nil => intro is σ ρ F g _; cases is <;> exact ⟨F, g⟩
  | val h t ih =>
    intro is σ ρ F g hF
    cases is with
    | nil => exact ⟨F, g⟩
    | cons i is =>
      obtain ⟨F', g'⟩ := ih (is := is) (g.setV i h) fun b hb j hj => hF b hb j (off_sub hj).1
      exact ⟨F', g'⟩
  | own h l r p f n na t ih =>
    intro is σ ρ F g hF
    cases is with
    | nil => exact ⟨F, g⟩
    | cons i is =>
      rename_i a xs ds vs ss As
      have hn : H a ≠ none := by rw [h]; exact fun z => nomatch z
      by_cases hi : i < ρ.length
      · have g1 : Gd c B Ψ (σ.set i (some (.ref a))) (ρ.set i (.own ds)) H (onF F i [a]) S := by
          refine ⟨g.x, g.so, g.eo.setO i hi ⟨a, xs, rfl, rfl, h, l, r⟩ (fun b hb => ?_) (fun b hb j _ hj => ?_), fun j b hb => ?_, fun k fs hk => ?_⟩
          · rcases List.mem_singleton.mp hb with rfl
            exact ⟨p, f, hn⟩
          · rcases List.mem_singleton.mp hb with rfl
            exact hF b List.mem_cons_self j hj
          · by_cases z : j = i
            · subst z
              rw [onF_eq] at hb
              rcases List.mem_singleton.mp hb with rfl
              exact bk _ n
            · rw [onF_ne z] at hb
              exact g.fr j b hb
          · rcases set0 hk with ⟨_, z⟩ | ⟨n, z⟩
            · cases z
            · rw [List.getElem?_set_ne n]; exact g.me k fs z
        obtain ⟨F', g'⟩ := ih (is := is) g1 fun b hb j hj => by
          by_cases z : j = i
          · subst z
            rw [onF_eq] at hj
            rcases List.mem_singleton.mp hj with rfl
            exact na hb
          · rw [onF_ne z] at hj
            exact hF b (List.mem_cons_of_mem _ hb) j hj
        exact ⟨F', g'⟩
      · have hl := g.eo.len
        obtain ⟨F', g'⟩ := ih (is := is) g fun b hb j hj => hF b (List.mem_cons_of_mem _ hb) j hj
        refine ⟨F', ?_⟩
        show Gd c B Ψ (setsS (σ.set i (some (.ref a))) is vs) (Sm.setsM (ρ.set i (.own ds)) is ss) H F' S
        rw [List.set_eq_of_length_le (l := σ) (by omega), List.set_eq_of_length_le (l := ρ) (by omega)]
        exact g'
end
section
variable {c : Cf} {X : Cx} {W : XK} {pos pos' apos cpos : Pos} {i j l : Nat} {x y z : Str} {a b d e : Expr}
theorem ss_par {ma : Env → M (List Slot)} {px py pt : Pos} {kt k2 pt2} (ha : SAM c X (cW W) [a, b] ma) (hN : X.N.Nodup) (hi : X.N[i]? = some x := by rfl) (hj : X.N[j]? = some y := by rfl) (hij : i ≠ j := by decide)
    (hx : X.env.scope.names.lookup x = some .local := by rfl) (hy : X.env.scope.names.lookup y = some .local := by rfl)
    (hw : swappedStores [.Tuple [.Name x px, .Name y py] kt pt] (.Tuple [a, b] k2 pt2) X.env = pure (some [x, y]) := by rfl)
    (hs : swapsWithSole [.Tuple [.Name x px, .Name y py] kt pt] (.Tuple [a, b] k2 pt2) pos.line X.env = pure false := by rfl) (hc : X.calm = true := by rfl) :
    SS c X W (.Assign [.Tuple [.Name x px, .Name y py] kt pt] (.Tuple [a, b] k2 pt2) pos) (fun ρ => bd (ma ρ) fun ss => fun S => if ss.length = 2 then .ok (.nx (setsM ρ [i, j] ss)) S else .stuck) := by
  refine ⟨ha.k, PS.imp (ps_par hc hN hi hj hij hx hy ha.p hw hs) fun D σ H ⟨B, Ψ, ρ, S, F, g, q⟩ => ⟨Ψ, ρ, S, F, g.so, g.eo, (q.bd.ext g.x).mono fun ss S1 q1 Ψ1 vs As H1 x1 s1 r1 => ?_⟩⟩
  split at q1
  · rename_i h2
    obtain ⟨F', g'⟩ := Gd.setsM (is := [i, j]) (fun b hb => g.x.dom b hb) r1 (g.ext x1 s1) fun b hb k hk => (g.eo.priv k b hk).2.2 (r1.mem b hb).1
    cases r1 with
    | nil => cases h2
    | val h t =>
      cases t with
      | nil => cases h2
      | val h' t' =>
        cases t' with
        | nil => exact ⟨_, _, rfl, q1 Ψ1 _ H1 F' g'⟩
        | _ => cases h2
      | own _ _ _ _ _ _ _ t' =>
        cases t' with
        | nil => exact ⟨_, _, rfl, q1 Ψ1 _ H1 F' g'⟩
        | _ => cases h2
    | own _ _ _ _ _ _ _ t =>
      cases t with
      | nil => cases h2
      | val h' t' =>
        cases t' with
        | nil => exact ⟨_, _, rfl, q1 Ψ1 _ H1 F' g'⟩
        | _ => cases h2
      | own _ _ _ _ _ _ _ t' =>
        cases t' with
        | nil => exact ⟨_, _, rfl, q1 Ψ1 _ H1 F' g'⟩
        | _ => cases h2
  · exact q1.elim
theorem MReps.len {Ψ : Wd} {H0 H : Hp} {vs : List V} {ss : List Slot} {As : List Addr} (h : MReps c Ψ H0 H vs ss As) : vs.length = ss.length := by
  induction h with
  | nil => rfl
  | val _ _ ih => rw [List.length_cons, List.length_cons, ih]
  | own _ _ _ _ _ _ _ _ ih => rw [List.length_cons, List.length_cons, ih]
theorem ss_par3 {ma : Env → M (List Slot)} {px py pz pt : Pos} {kt k2 pt2} (ha : SAM c X (cW W) [a, b, d] ma) (hN : X.N.Nodup) (hi : X.N[i]? = some x := by rfl) (hj : X.N[j]? = some y := by rfl) (hl : X.N[l]? = some z := by rfl) (hij : i ≠ j := by decide) (hil : i ≠ l := by decide) (hjl : j ≠ l := by decide)
    (hx : X.env.scope.names.lookup x = some .local := by rfl) (hy : X.env.scope.names.lookup y = some .local := by rfl) (hz : X.env.scope.names.lookup z = some .local := by rfl)
    (hw : swappedStores [.Tuple [.Name x px, .Name y py, .Name z pz] kt pt] (.Tuple [a, b, d] k2 pt2) X.env = pure (some [x, y, z]) := by rfl)
    (hs : swapsWithSole [.Tuple [.Name x px, .Name y py, .Name z pz] kt pt] (.Tuple [a, b, d] k2 pt2) pos.line X.env = pure false := by rfl) (hc : X.calm = true := by rfl) :
    SS c X W (.Assign [.Tuple [.Name x px, .Name y py, .Name z pz] kt pt] (.Tuple [a, b, d] k2 pt2) pos) (fun ρ => bd (ma ρ) fun ss => fun S => if ss.length = 3 then .ok (.nx (setsM ρ [i, j, l] ss)) S else .stuck) := by
  refine ⟨ha.k, PS.imp (ps_par3 hc hN hi hj hl hij hil hjl hx hy hz ha.p hw hs) fun D σ H ⟨B, Ψ, ρ, S, F, g, q⟩ => ⟨Ψ, ρ, S, F, g.so, g.eo, (q.bd.ext g.x).mono fun ss S1 q1 Ψ1 vs As H1 x1 s1 r1 => ?_⟩⟩
  split at q1
  · rename_i h2
    obtain ⟨F', g'⟩ := Gd.setsM (is := [i, j, l]) (fun b hb => g.x.dom b hb) r1 (g.ext x1 s1) fun b hb k hk => (g.eo.priv k b hk).2.2 (r1.mem b hb).1
    have hv : vs.length = 3 := by rw [r1.len]; exact h2
    match vs, hv with
    | [u, v, w], _ => exact ⟨u, v, w, rfl, q1 Ψ1 _ H1 F' g'⟩
  · exact q1.elim

/-! ### the own list at place i -/
def ownAt (ρ : Env) (i : Nat) : M (List D) := fun S => match ρ[i]? with
  | some (.own ds) => .ok ds S
  | _ => .stuck
theorem own_at {B : Bs} {Ψ : Wd} {σ : L2.St} {ρ : Env} {H : Hp} {F : Nat → List Addr} {S : Sto} {α : Type} {R : α → Sto → Prop} {f : List D → M α} {V0 : XK} {Ψ0 : Wd} {H0 : Hp} (g : Gd c B Ψ σ ρ H F S) (q : Post c V0 Ψ0 H0 (bd (ownAt ρ i) f S) R) :
    ∃ ds a vs, ρ[i]? = some (.own ds) ∧ a ∈ F i ∧ F i = [a] ∧ σ[i]? = some (some (.ref a)) ∧ H a = some (.lst vs) ∧ vs.length ≤ LIM ∧ Reps c Ψ vs ds ∧ Post c V0 Ψ0 H0 (f ds S) R := by
  have q' := q.bd
  unfold ownAt at q'
  split at q'
  · rename_i ds hs
    obtain ⟨a, vs, hF, h1, h2, l, h3⟩ := g.eo.slot i _ hs
    exact ⟨ds, a, vs, hs, by rw [hF]; simp, hF, h1, h2, l, h3, q'⟩
  · exact q'.elim
theorem Gd.setOwn {B : Bs} {Ψ : Wd} {σ : L2.St} {ρ : Env} {H : Hp} {F : Nat → List Addr} {S : Sto} (g : Gd c B Ψ σ ρ H F S) {ds es : List D} {a : Addr} {ws : List V} (hs : ρ[i]? = some (.own ds)) (hF : F i = [a]) (h1 : σ[i]? = some (some (.ref a))) (l : ws.length ≤ LIM) (r : Reps c Ψ ws es) :
    Gd c B Ψ σ (ρ.set i (.own es)) (L2.upd H a (.lst ws)) F S :=
  g.upd hs (by rw [hF]; simp) ⟨a, ws, hF, h1, upd_same, l, r⟩ (fun _ _ z => nomatch z)
/-- x.append(e) -/
theorem ss_append {m : Env → M D} {px : Pos} (h : SE c X (cW W) e m) (hN : X.N[i]? = some x := by rfl) (hv : Vis X.env.scope x := by first | exact Or.inl rfl | exact Or.inr (Or.inl rfl) | exact Or.inr (Or.inr rfl)) (hd : (x == ("__debug__" : Str)) = false := by decide)
    (hcd : (x == ("__classdict__" : Str)) = false := by decide) (hbase : attributeBase (.Name x px) "append" X.env (eval (.Name x px) X.env) = eval (.Name x px) X.env := by rfl)
    (hfew : ((backTo cpos (starEach [e] X.env)).all (fun x => !x.1) && (backToKw cpos (keywordEach [] X.env)).all (fun x => x.1.isSome)
      && decide ([e].length + ([] : List Keyword).length + (if ([] : List Keyword).isEmpty then 0 else 1) < 30)) = true := by rfl)
    (hline : (apos.endLine == cpos.line) = true := by rfl) (hs : starEach [e] X.env = (false, eval e X.env) :: starEach [] X.env := by rfl) (hplain : (backTo cpos (starEach [] X.env)).any (·.1) = false := by rfl)
    (hsw : swapsWith (.Call (.Attribute (.Name x px) "append" apos) [e] [] cpos) none pos.line X.env = pure false := by rfl) :
    SS c X W (.Expr (.Call (.Attribute (.Name x px) "append" apos) [e] [] cpos) pos) (fun ρ => bd (ownAt ρ i) fun ds => bd (m ρ) fun d => fun S => if ds.length < LIM then .ok (.nx (ρ.set i (.own (ds ++ [d])))) S else .stuck) := by
  refine ⟨h.k, PS.imp (ps_expr (pe_bm PySem.F.plainAttrs_list PySem.F.slot_list_append PySem.F.type_list_append mt_append (pe_var hN hv hd hcd) (pa_cons h.p pa_nil hs) hbase hfew hline hs hplain) hsw) fun D σ H ⟨B, Ψ, ρ, S, F, g, q⟩ => ?_⟩
  obtain ⟨ds, a, vs, hr, ha, hF, h1, h2, l, r, q⟩ := own_at g q
  refine ⟨.ref a, h1, .inl ⟨rfl, vs, SqL.of h2⟩, Ψ, ρ, S, F, g.so, g.eo, (q.bd.ext g.x).mono fun d S1 q1 Ψ1 v H1 x1 s1 r1 => ?_⟩
  have h2' : H1 a = some (.lst vs) := x1.keep _ _ h2 (g.eo.priv i a ha).2.1
  split at q1
  · rename_i hl
    refine ⟨a, vs, v, rfl, rfl, h2', lim_lt (by rw [r.length]; exact hl), ?_⟩
    exact q1 Ψ1 σ _ F ((g.ext x1 s1).setOwn hr hF h1 (by rw [List.length_append, r.length]; exact hl) ((r.mono x1.le).app (.cons r1 .nil)))
  · exact q1.elim
/-- x.insert(k, e) -/
theorem ss_insert {m : Env → M (List D)} {px : Pos} {e1 e2 : Expr} (h : SA c X (cW W) [e1, e2] m) (hN : X.N[i]? = some x := by rfl) (hv : Vis X.env.scope x := by first | exact Or.inl rfl | exact Or.inr (Or.inl rfl) | exact Or.inr (Or.inr rfl)) (hd : (x == ("__debug__" : Str)) = false := by decide)
    (hcd : (x == ("__classdict__" : Str)) = false := by decide) (hbase : attributeBase (.Name x px) "insert" X.env (eval (.Name x px) X.env) = eval (.Name x px) X.env := by rfl)
    (hfew : ((backTo cpos (starEach [e1, e2] X.env)).all (fun x => !x.1) && (backToKw cpos (keywordEach [] X.env)).all (fun x => x.1.isSome)
      && decide ([e1, e2].length + ([] : List Keyword).length + (if ([] : List Keyword).isEmpty then 0 else 1) < 30)) = true := by rfl)
    (hline : (apos.endLine == cpos.line) = true := by rfl) (hs : starEach [e1, e2] X.env = (false, eval e1 X.env) :: starEach [e2] X.env := by rfl) (hplain : (backTo cpos (starEach [e2] X.env)).any (·.1) = false := by rfl)
    (hsw : swapsWith (.Call (.Attribute (.Name x px) "insert" apos) [e1, e2] [] cpos) none pos.line X.env = pure false := by rfl) :
    SS c X W (.Expr (.Call (.Attribute (.Name x px) "insert" apos) [e1, e2] [] cpos) pos) (fun ρ => bd (ownAt ρ i) fun ds => bd (m ρ) fun as => fun S => match as with
      | [.int k, d] => if ds.length < LIM ∧ 0 ≤ k ∧ k < 100000 then .ok (.nx (ρ.set i (.own (ds.take k.toNat ++ [d] ++ ds.drop k.toNat)))) S else .stuck
      | _ => .stuck) := by
  refine ⟨h.k, PS.imp (ps_expr (pe_bm PySem.F.plainAttrs_list PySem.F.slot_list_insert PySem.F.type_list_insert mt_insert (pe_var hN hv hd hcd) h.p hbase hfew hline hs hplain) hsw) fun D σ H ⟨B, Ψ, ρ, S, F, g, q⟩ => ?_⟩
  obtain ⟨ds, a, vs, hr, ha, hF, h1, h2, l, r, q⟩ := own_at g q
  refine ⟨.ref a, h1, .inl ⟨rfl, vs, SqL.of h2⟩, Ψ, ρ, S, F, g.so, g.eo, (q.bd.ext g.x).mono fun as S1 q1 Ψ1 us H1 x1 s1 r1 => ?_⟩
  have h2' : H1 a = some (.lst vs) := x1.keep _ _ h2 (g.eo.priv i a ha).2.1
  split at q1
  · rename_i k d
    split at q1
    · rename_i hl
      cases r1 with
      | cons rk t =>
        cases rk
        cases t with
        | cons rd t =>
          cases t
          rename_i v
          have rr := r.mono x1.le
          refine ⟨a, vs, k, v, rfl, rfl, h2', lim_lt (by rw [r.length]; exact hl.1), hl.2.1, by omega, ?_⟩
          refine q1 Ψ1 σ _ F ((g.ext x1 s1).setOwn hr hF h1 ?_ (((rr.take k.toNat).app (.cons rd .nil)).app (rr.drop k.toNat)))
          have hl1 := hl.1
          have hr1 := r.length
          rw [List.length_append, List.length_append, List.length_take, List.length_drop, List.length_singleton]
          omega
    · exact q1.elim
  · exact q1.elim
/-- x.pop(k) as a value, at the end of an assignment or alone -/
def popM (ρ : Env) (i : Nat) (m : M D) : M (D × Env) := bd (ownAt ρ i) fun ds => bd m fun a => fun S => match a with
  | .int k => if 0 ≤ k ∧ k < 100000 then match ds[k.toNat]? with
      | some d => .ok (d, ρ.set i (.own (ds.eraseIdx k.toNat))) S
      | none => .stuck
    else .stuck
  | _ => .stuck
theorem pop_r {B : Bs} {Ψ : Wd} {σ : L2.St} {ρ : Env} {H : Hp} {F : Nat → List Addr} {S : Sto} {m : Env → M D} {R : D × Env → Sto → Prop} {Q : VK} {K : PySem.W.Frag} (g : Gd c B Ψ σ ρ H F S) (q : Post c W B.wd B.H (popM ρ i (m ρ) S) R)
    (k : ∀ d ρ' S' Ψ' v H', R (d, ρ') S' → Gd c B Ψ' σ ρ' H' F S' → Rep c Ψ' v d → Q v H') : tBM K "list" rPopAt (tVar i) (tCons (rE c (cW W) m) tNil) σ H Q := by
  unfold popM at q
  obtain ⟨ds, a, vs, hr, ha, hF, h1, h2, l, r, q⟩ := own_at g q
  refine ⟨.ref a, h1, .inl ⟨rfl, vs, SqL.of h2⟩, Ψ, ρ, S, F, g.so, g.eo, (q.bd.ext g.x).mono fun b S1 q1 Ψ1 v H1 x1 s1 r1 => ?_⟩
  have h2' : H1 a = some (.lst vs) := x1.keep _ _ h2 (g.eo.priv i a ha).2.1
  split at q1
  · rename_i kk
    split at q1
    · rename_i hk
      split at q1
      · rename_i d hd
        cases r1
        obtain ⟨y, hy, ry⟩ := r.get hd
        have hlt : kk.toNat < vs.length := (List.getElem?_eq_some_iff.mp hy).1
        have hc : kk < (vs.length : Int) := by omega
        refine ⟨a, vs, kk, kk.toNat, y, rfl, rfl, h2', by omega, by omega, seqIndex_of hk.1 hc, hy, ?_⟩
        refine k d _ S1 Ψ1 y _ q1 ((g.ext x1 s1).setOwn hr hF h1 ?_ ((r.mono x1.le).erase kk.toNat)) (ry.mono x1.le)
        exact Nat.le_trans (List.length_eraseIdx_le ..) l
      · exact q1.elim
    · exact q1.elim
  · exact q1.elim
section
variable {px : Pos} {m : Env → M D} {y : Str} {j : Nat}
theorem ss_pop (h : SE c X (cW W) e m) (hN : X.N[i]? = some x := by rfl) (hv : Vis X.env.scope x := by first | exact Or.inl rfl | exact Or.inr (Or.inl rfl) | exact Or.inr (Or.inr rfl)) (hd : (x == ("__debug__" : Str)) = false := by decide)
    (hcd : (x == ("__classdict__" : Str)) = false := by decide) (hbase : attributeBase (.Name x px) "pop" X.env (eval (.Name x px) X.env) = eval (.Name x px) X.env := by rfl)
    (hfew : ((backTo cpos (starEach [e] X.env)).all (fun x => !x.1) && (backToKw cpos (keywordEach [] X.env)).all (fun x => x.1.isSome)
      && decide ([e].length + ([] : List Keyword).length + (if ([] : List Keyword).isEmpty then 0 else 1) < 30)) = true := by rfl)
    (hline : (apos.endLine == cpos.line) = true := by rfl) (hs : starEach [e] X.env = (false, eval e X.env) :: starEach [] X.env := by rfl) (hplain : (backTo cpos (starEach [] X.env)).any (·.1) = false := by rfl)
    (hsw : swapsWith (.Call (.Attribute (.Name x px) "pop" apos) [e] [] cpos) none pos.line X.env = pure false := by rfl) :
    SS c X W (.Expr (.Call (.Attribute (.Name x px) "pop" apos) [e] [] cpos) pos) (fun ρ => bd (popM ρ i (m ρ)) fun r => rt (.nx r.2)) := by
  refine ⟨h.k, PS.imp (ps_expr (pe_bm PySem.F.plainAttrs_list PySem.F.slot_list_pop PySem.F.type_list_pop mt_popAt (pe_var hN hv hd hcd) (pa_cons h.p pa_nil hs) hbase hfew hline hs hplain) hsw) fun D σ H ⟨B, Ψ, ρ, S, F, g, q⟩ => ?_⟩
  exact pop_r g q.bd fun d ρ' S' Ψ' v H' hR g' r' => hR Ψ' σ H' F g'
theorem ss_setPop {py : Pos} (h : SE c X (cW W) e m) (hNd : X.N.Nodup) (hj : X.N[j]? = some y := by rfl) (hy : Loc X.env.scope y := by first | exact Or.inl rfl | exact Or.inr rfl) (hN : X.N[i]? = some x := by rfl) (hv : Vis X.env.scope x := by first | exact Or.inl rfl | exact Or.inr (Or.inl rfl) | exact Or.inr (Or.inr rfl)) (hd : (x == ("__debug__" : Str)) = false := by decide)
    (hcd : (x == ("__classdict__" : Str)) = false := by decide) (hbase : attributeBase (.Name x px) "pop" X.env (eval (.Name x px) X.env) = eval (.Name x px) X.env := by rfl)
    (hfew : ((backTo cpos (starEach [e] X.env)).all (fun x => !x.1) && (backToKw cpos (keywordEach [] X.env)).all (fun x => x.1.isSome)
      && decide ([e].length + ([] : List Keyword).length + (if ([] : List Keyword).isEmpty then 0 else 1) < 30)) = true := by rfl)
    (hline : (apos.endLine == cpos.line) = true := by rfl) (hs : starEach [e] X.env = (false, eval e X.env) :: starEach [] X.env := by rfl) (hplain : (backTo cpos (starEach [] X.env)).any (·.1) = false := by rfl)
    (hsw : swapsWith (.Call (.Attribute (.Name x px) "pop" apos) [e] [] cpos) (some (.Name y py)) pos.line X.env = pure false := by rfl) (hf : X.fn y = true ∨ X.env.scope.names.lookup y = some .local := by first | exact .inl rfl | exact .inr rfl) :
    SS c X W (.Assign [.Name y py] (.Call (.Attribute (.Name x px) "pop" apos) [e] [] cpos) pos) (fun ρ => bd (popM ρ i (m ρ)) fun r => rt (.nx (r.2.set j (.val r.1)))) := by
  refine ⟨h.k, PS.imp (ps_set hNd hj hy (pe_bm PySem.F.plainAttrs_list PySem.F.slot_list_pop PySem.F.type_list_pop mt_popAt (pe_var hN hv hd hcd) (pa_cons h.p pa_nil hs) hbase hfew hline hs hplain) hsw hf) fun D σ H ⟨B, Ψ, ρ, S, F, g, q⟩ => ?_⟩
  exact pop_r g q.bd fun d ρ' S' Ψ' v H' hR g' r' => hR Ψ' _ H' _ (g'.setV j r')
end
end
end Sm

/-! text: Sim11 -/
set_option Elab.async false
set_option linter.all false
set_option maxRecDepth 100000
set_option maxHeartbeats 1000000
namespace Sm
open PySem PySem.Spec PyProof.Rows L2

/-! ### shared lists: changed, made -/
theorem Ext.updO {Ψ : Wd} {H : Hp} {n : Nat} {p : Addr × Addr} {o : HO} (h : Ψ.sh[n]? = some p) (hp : H p.1 ≠ none) : Ext Ψ H Ψ (L2.upd H p.1 o) where
  le := Le.refl _
  dom := fun b hb => by
    by_cases e : b = p.1
    · subst e; rw [upd_same] at hb; cases hb
    · rw [upd_ne e] at hb; exact hb
  nphi := fun _ _ h => .inl h
  nmu := fun _ h => .inl h
  keep := fun b u hu f => by
    rw [upd_ne (fun e => f (.inl ⟨n, p, h, .inl e⟩))]
    exact hu
theorem StoOk.updO {c : Cf} {Ψ : Wd} {H : Hp} {S : Sto} {n : Nat} {ds es : List D} {p : Addr × Addr} {ws : List V} (s : StoOk c Ψ H S) (h : Ψ.sh[n]? = some p) (hs : S[n]? = some (.lst ds)) (l : ws.length ≤ LIM) (r : Reps c Ψ ws es) :
    StoOk c Ψ (L2.upd H p.1 (.lst ws)) (S.set n (.lst es)) where
  phi := fun a o e => by
    have hn := s.off p.1 (.inl ⟨n, p, h, .inl rfl⟩)
    rw [upd_ne (ne_of_none e hn)]
    exact s.phi a o e
  off := s.off
  nd := s.nd
  len := by rw [List.length_set]; exact s.len
  tbc := s.tbc
  tab := fun t ht => let ⟨ps, h1, h2⟩ := s.tab t ht; ⟨ps, by rw [upd_ne (s.tnd t ht n p h).1.symm]; exact h1, h2⟩
  tnd := s.tnd
  obj := fun i o e => by
    by_cases z : i = n
    · subst z
      have hl : i < S.length := (List.getElem?_eq_some_iff.mp hs).1
      rw [List.getElem?_set_self hl] at e
      cases e
      obtain ⟨p', h1, vs, _, h3, _, _⟩ := s.obj i _ hs
      rw [h] at h1; cases h1
      exact ⟨p, h, ws, upd_same, h3, l, r⟩
    · rw [List.getElem?_set_ne (Ne.symm z)] at e
      obtain ⟨q, h1, h2⟩ := s.obj i o e
      obtain ⟨n1, n2, n3, n4⟩ := s.nd i n q p h1 h z
      refine ⟨q, h1, ?_⟩
      cases o with
      | lst ds => obtain ⟨vs, x1, x2, x3, x4⟩ := h2; exact ⟨vs, by rw [upd_ne n1]; exact x1, x2, x3, x4⟩
      | ins k fs =>
        obtain ⟨vs, x1, x2, x3, x4⟩ := h2
        refine ⟨vs, Slt.keep x1 fun b hb u hu => ?_, x2, by rw [upd_ne n3]; exact x3, x4⟩
        rcases hb with rfl | rfl
        · rw [upd_ne n1]; exact hu
        · rw [upd_ne n3]; exact hu
def Wd.share (Ψ : Wd) (a : Addr) : Wd := ⟨Ψ.fz, Ψ.sh ++ [(a, a)], Ψ.tb⟩
theorem share_foot {Ψ : Wd} {a b : Addr} (h : Foot (Ψ.share a) b) : Foot Ψ b ∨ b = a := by
  rcases Or.symm h with h | ⟨n, p, h1, h2⟩
  · exact .inl (.inr h)
  have h1' : (Ψ.sh ++ [(a, a)])[n]? = some p := h1
  by_cases z : n < Ψ.sh.length
  · rw [List.getElem?_append_left z] at h1'
    exact .inl (.inl ⟨n, p, h1', h2⟩)
  · rw [List.getElem?_append_right (by omega)] at h1'
    have hn : n - Ψ.sh.length = 0 := by
      have := (List.getElem?_eq_some_iff.mp h1').1
      simpa using this
    rw [hn] at h1'
    cases h1'
    rcases h2 with h2 | h2 <;> exact .inr h2
theorem Le.share {Ψ : Wd} {a : Addr} : Le Ψ (Ψ.share a) := ⟨fun _ _ h => h, fun n p h => by
  show (Ψ.sh ++ [(a, a)])[n]? = _
  rw [List.getElem?_append_left (List.getElem?_eq_some_iff.mp h).1]
  exact h, rfl⟩
theorem Ext.share {Ψ : Wd} {H : Hp} {Ψ' : Wd} {H' : Hp} {a : Addr} (x : Ext Ψ H Ψ' H') (n : H a = none) : Ext Ψ H (Ψ'.share a) H' :=
  ⟨x.le.trans Le.share, x.dom, x.nphi, fun b f => by
    rcases share_foot f with f | rfl
    · exact x.nmu b f
    · exact .inr n, x.keep⟩
theorem StoOk.share {c : Cf} {Ψ : Wd} {H : Hp} {S : Sto} {a : Addr} {vs : List V} {ds : List D} (s : StoOk c Ψ H S) (h : H a = some (.lst vs)) (p : Ψ.fz a = none) (f : ¬ Foot Ψ a) (l : vs.length ≤ LIM) (r : Reps c Ψ vs ds) : StoOk c (Ψ.share a) H (S ++ [.lst ds]) where
  phi := s.phi
  off := fun b hb => by
    rcases share_foot hb with hb | rfl
    · exact s.off b hb
    · exact p
  nd := fun i j q1 q2 h1 h2 ne => by
    have key : ∀ (i : Nat) (q : Addr × Addr), (Ψ.share a).sh[i]? = some q → (Ψ.sh[i]? = some q) ∨ (i = Ψ.sh.length ∧ q = (a, a)) := fun i q e => by
      have e' : (Ψ.sh ++ [(a, a)])[i]? = some q := e
      by_cases z : i < Ψ.sh.length
      · rw [List.getElem?_append_left z] at e'; exact .inl e'
      · rw [List.getElem?_append_right (by omega)] at e'
        have hn : i - Ψ.sh.length = 0 := by
          have := (List.getElem?_eq_some_iff.mp e').1
          simpa using this
        rw [hn] at e'
        exact .inr ⟨by omega, (Option.some.inj e').symm⟩
    rcases key i q1 h1 with k1 | ⟨k1, rfl⟩ <;> rcases key j q2 h2 with k2 | ⟨k2, rfl⟩
    · exact s.nd i j q1 q2 k1 k2 ne
    · have g1 : q1.1 ≠ a := fun z => f (.inl ⟨i, q1, k1, .inl z.symm⟩)
      have g2 : q1.2 ≠ a := fun z => f (.inl ⟨i, q1, k1, .inr z.symm⟩)
      exact ⟨g1, g1, g2, g2⟩
    · have g1 : a ≠ q2.1 := fun z => f (.inl ⟨j, q2, k2, .inl z⟩)
      have g2 : a ≠ q2.2 := fun z => f (.inl ⟨j, q2, k2, .inr z⟩)
      exact ⟨g1, g2, g1, g2⟩
    · omega
  len := by
    show (Ψ.sh ++ [(a, a)]).length = _
    rw [List.length_append, List.length_append, s.len]; rfl
  tbc := s.tbc
  tab := s.tab
  tnd := fun t ht n q hq => by
    have e' : (Ψ.sh ++ [(a, a)])[n]? = some q := hq
    by_cases z : n < Ψ.sh.length
    · rw [List.getElem?_append_left z] at e'; exact s.tnd t ht n q e'
    · rw [List.getElem?_append_right (by omega)] at e'
      have hn : n - Ψ.sh.length = 0 := by
        have := (List.getElem?_eq_some_iff.mp e').1
        simpa using this
      rw [hn] at e'
      cases e'
      have hne : a ≠ t.1 := fun z => f (.inr ⟨t.2, by rw [z]; exact ht⟩)
      exact ⟨hne, hne⟩
  obj := fun n o e => by
    by_cases z : n < S.length
    · rw [List.getElem?_append_left z] at e
      obtain ⟨q, h1, h2⟩ := s.obj n o e
      refine ⟨q, Le.share.mu n q h1, ?_⟩
      cases o with
      | lst ds => obtain ⟨vs, x1, x2, x3, x4⟩ := h2; exact ⟨vs, x1, x2, x3, x4.mono Le.share⟩
      | ins k fs => obtain ⟨vs, x1, x2, x3, x4⟩ := h2; exact ⟨vs, x1, x2, x3, x4.mono Le.share⟩
    · rw [List.getElem?_append_right (by omega)] at e
      have hn : n - S.length = 0 := by
        have := (List.getElem?_eq_some_iff.mp e).1
        simpa using this
      rw [hn] at e
      cases e
      refine ⟨(a, a), ?_, vs, h, rfl, l, r.mono Le.share⟩
      show (Ψ.sh ++ [(a, a)])[n]? = _
      have hl := s.len
      have : n = Ψ.sh.length := by omega
      rw [this, List.getElem?_append_right (Nat.le_refl _), Nat.sub_self]
      rfl
section
variable {c : Cf} {X : Cx} {W : XK} {pos pos' apos cpos : Pos} {i j l : Nat} {x y z : Str} {a b d e : Expr}
/-- x = [..], a list that others may change -/
theorem ss_setS {m : Env → M (List D)} (h : SN c X (cW W) e m) (hN : X.N.Nodup) (hi : X.N[i]? = some x := by rfl) (hx : Loc X.env.scope x := by first | exact Or.inl rfl | exact Or.inr rfl) (hs : swapsWith e (some (.Name x pos')) pos.line X.env = pure false := by rfl) (hf : X.fn x = true ∨ X.env.scope.names.lookup x = some .local := by first | exact .inl rfl | exact .inr rfl) :
    SS c X W (.Assign [.Name x pos'] e pos) (fun ρ => bd (m ρ) fun ds => fun S => .ok (.nx (ρ.set i (.val (.ref S.length)))) (S ++ [.lst ds])) :=
  ⟨h.k, PS.imp (ps_set hN hi hx h.p hs hf) fun D σ H ⟨B, Ψ, ρ, S, F, g, q⟩ => ⟨Ψ, ρ, S, F, g.so, g.eo, (q.bd.ext g.x).mono fun ds S1 q1 Ψ1 a vs H1 x1 s1 h1 l1 r1 p1 f1 n1 => by
    have g1 : Gd c B (Ψ1.share a) σ ρ H1 F (S1 ++ [.lst ds]) := g.ext (x1.share n1) (s1.share h1 p1 f1 l1 r1)
    refine q1 (Ψ1.share a) _ H1 _ (g1.setV i (.obj (n := S1.length) (p := (a, a)) ?_))
    show (Ψ1.sh ++ [(a, a)])[S1.length]? = _
    rw [← s1.len, List.getElem?_append_right (Nat.le_refl _), Nat.sub_self]
    rfl⟩⟩
/-- a[k] = v, a shared list or the frame's own -/
def setAt (ρ : Env) (i : Nat) (k : Int) (v : D) : M Out := fun S => match ρ[i]? with
  | some (.val (.ref n)) => match S[n]? with
    | some (.lst ds) => match L2.ixN ds.length k with
      | some j => .ok (.nx ρ) (S.set n (.lst (ds.set j v)))
      | none => .stuck
    | _ => .stuck
  | some (.own ds) => match L2.ixN ds.length k with
    | some j => .ok (.nx (ρ.set i (.own (ds.set j v)))) S
    | none => .stuck
  | _ => .stuck
theorem ss_setIx {m mk : Env → M D} {px : Pos} {kx : Expr} (h : SE c X (cW W) e m) (hk : SE c X (cW W) kx mk) (hN : X.N[i]? = some x := by rfl) (hv : Vis X.env.scope x := by first | exact Or.inl rfl | exact Or.inr (Or.inl rfl) | exact Or.inr (Or.inr rfl)) (hd : (x == ("__debug__" : Str)) = false := by decide)
    (hcd : (x == ("__classdict__" : Str)) = false := by decide)
    (ha : ∀ v, assign (.Subscript (.Name x px) kx pos') X.env v = (do
      let ov ← holding [v] (eval (.Name x px) X.env)
      let iv ← holding [v, ov] (eval kx X.env)
      standAt pos'
      holding [v, ov, iv] (setItem ov iv v)
      release [v, ov, iv] []) := by intro _; rfl)
    (hs : swapsWithSole [.Subscript (.Name x px) kx pos'] e pos.line X.env = pure false := by rfl) (hw : swappedStores [.Subscript (.Name x px) kx pos'] e X.env = pure none := by rfl)
    (h1 : (assignEach [.Subscript (.Name x px) kx pos'] X.env).map (·.2) = [assign (.Subscript (.Name x px) kx pos') X.env] := by rfl) :
    SS c X W (.Assign [.Subscript (.Name x px) kx pos'] e pos) (fun ρ => bd (m ρ) fun v => bd (opt (match ρ[i]? with
      | some (.val (.ref n)) => some ()
      | some (.own ds) => some ()
      | _ => none)) fun _ => bd (mk ρ) fun k => match k with
      | .int k => setAt ρ i k v
      | _ => stk) := by
  refine ⟨h.k, PS.imp (ps_asg h.p (pg_sub (pe_var hN hv hd hcd) hk.p set_list ha) hs hw h1) fun D σ H ⟨B, Ψ, ρ, S, F, g, q⟩ => ?_⟩
  refine ⟨Ψ, ρ, S, F, g.so, g.eo, (q.bd.ext g.x).mono fun v S1 q1 Ψ1 vv H1 x1 s1 r1 => ?_⟩
  have g1 := g.ext x1 s1
  have q2 := q1.bd
  unfold opt at q2
  split at q2
  · rename_i hsome
    have hslot : ∃ w : Addr, σ[i]? = some (some (.ref w)) := by
      split at hsome
      · rename_i n hs
        obtain ⟨_, w, e1, e2⟩ := g1.eo.slot i _ hs
        cases e2
        exact ⟨_, e1⟩
      · rename_i ds hs
        obtain ⟨w, _, _, e1, _⟩ := g1.eo.slot i _ hs
        exact ⟨w, e1⟩
      · cases hsome
    obtain ⟨w, hw1⟩ := hslot
    refine ⟨.ref w, hw1, Ψ1, ρ, S1, F, g1.so, g1.eo, (Post.bd q2 |>.ext g1.x).mono fun k S2 q3 Ψ2 kv H2 x2 s2 r2 => ?_⟩
    have g2 := g1.ext x2 s2
    split at q3
    · rename_i kk
      cases r2
      unfold setAt at q3
      split at q3
      · rename_i n hs
        split at q3
        · rename_i ds hd
          split at q3
          · rename_i jj hj
            obtain ⟨_, w', e1, e2⟩ := g2.eo.slot i _ hs
            rw [hw1] at e1
            cases e1
            cases e2 with
            | obj hp =>
              obtain ⟨p', h3, vs, h4, h5, h6, h7⟩ := g2.so.obj n _ hd
              rw [hp] at h3; cases h3
              refine ⟨_, vs, kk, jj, rfl, rfl, h4, by rw [h7.length]; exact hj, ?_⟩
              have xx : Ext Ψ2 H2 Ψ2 _ := Ext.updO (o := .lst (vs.set jj vv)) hp (by rw [h4]; exact fun z => nomatch z)
              exact q3 Ψ2 σ _ F (g2.ext xx (g2.so.updO hp hd (by rw [List.length_set]; exact h6) (h7.set (r1.mono x2.le) jj)))
          · exact q3.elim
        · exact q3.elim
      · rename_i ds hs
        split at q3
        · rename_i jj hj
          obtain ⟨a, vs, hF, e1, h4, h6, h7⟩ := g2.eo.slot i _ hs
          rw [hw1] at e1
          cases e1
          refine ⟨w, vs, kk, jj, rfl, rfl, h4, by rw [h7.length]; exact hj, ?_⟩
          exact q3 Ψ2 σ _ F (g2.setOwn hs hF hw1 (by rw [List.length_set]; exact h6) (h7.set (r1.mono x2.le) jj))
        · exact q3.elim
      · exact q3.elim
    · exact q3.elim
  · exact q2.elim

/-! ### own dicts -/
def putL (ks : List (Key × D)) (k : Key) (d : D) : List (Key × D) := if (ks.any fun q => decide (q.1 = k)) = true then ks.map (fun q => if q.1 = k then (q.1, d) else q) else ks ++ [(k, d)]
def getL (ks : List (Key × D)) (k : Key) : Option D := (ks.find? fun q => decide (q.1 = k)).map (·.2)
def mergeL (a b : List (Key × D)) : List (Key × D) := b.foldl (fun acc q => putL acc q.1 q.2) a
inductive KReps (c : Cf) (Ψ : Wd) : List (Key × V) → List (Key × D) → Prop
  | nil : KReps c Ψ [] []
  | cons {k : Key} {v : V} {d : D} {kvs : List (Key × V)} {ks : List (Key × D)} (h : Rep c Ψ v d) (t : KReps c Ψ kvs ks) : KReps c Ψ ((k, v) :: kvs) ((k, d) :: ks)
theorem KReps.to {Ψ : Wd} {kvs : List (Key × V)} {ks : List (Key × D)} (h : KReps c Ψ kvs ks) : kvs.map (·.1) = ks.map (·.1) ∧ Reps c Ψ (kvs.map (·.2)) (ks.map (·.2)) := by
  induction h with
  | nil => exact ⟨rfl, .nil⟩
  | cons h t ih => exact ⟨by rw [List.map_cons, List.map_cons, ih.1], .cons h ih.2⟩
theorem KReps.of {Ψ : Wd} : ∀ {kvs : List (Key × V)} {ks : List (Key × D)}, kvs.map (·.1) = ks.map (·.1) → Reps c Ψ (kvs.map (·.2)) (ks.map (·.2)) → KReps c Ψ kvs ks
  | [], [], _, _ => .nil
  | [], _ :: _, h, _ => by cases h
  | _ :: _, [], h, _ => by cases h
  | (k, v) :: kvs, (k', d) :: ks, h, r => by
    rw [List.map_cons, List.map_cons] at h
    injection h with h1 h2
    have h1' : k = k' := h1
    subst h1'
    cases r with
    | cons r t => exact .cons r (KReps.of h2 t)
theorem KReps.any {Ψ : Wd} {kvs : List (Key × V)} {ks : List (Key × D)} (h : KReps c Ψ kvs ks) (k : Key) : (kvs.any fun q => decide (q.1 = k)) = (ks.any fun q => decide (q.1 = k)) := by
  induction h with
  | nil => rfl
  | cons h t ih => rw [List.any_cons, List.any_cons, ih]
theorem KReps.mapK {Ψ : Wd} {kvs : List (Key × V)} {ks : List (Key × D)} {v : V} {d : D} (r : Rep c Ψ v d) (k : Key) (h : KReps c Ψ kvs ks) : KReps c Ψ (kvs.map fun q => if q.1 = k then (q.1, v) else q) (ks.map fun q => if q.1 = k then (q.1, d) else q) := by
  induction h with
  | nil => exact .nil
  | @cons k' v' d' _ _ h t ih =>
    rw [List.map_cons, List.map_cons]
    by_cases e : k' = k
    · rw [if_pos e, if_pos e]; exact .cons r ih
    · rw [if_neg e, if_neg e]; exact .cons h ih
theorem KReps.app {Ψ : Wd} {kvs kvs' : List (Key × V)} {ks ks' : List (Key × D)} (h : KReps c Ψ kvs ks) (h' : KReps c Ψ kvs' ks') : KReps c Ψ (kvs ++ kvs') (ks ++ ks') := by
  induction h with
  | nil => exact h'
  | cons h t ih => exact .cons h ih
theorem KReps.put {Ψ : Wd} {kvs : List (Key × V)} {ks : List (Key × D)} {v : V} {d : D} (h : KReps c Ψ kvs ks) (k : Key) (r : Rep c Ψ v d) : KReps c Ψ (putK kvs k v) (putL ks k d) := by
  unfold putK putL
  rw [h.any k]
  split
  · exact h.mapK r k
  · exact h.app (.cons r .nil)
theorem KReps.get {Ψ : Wd} {kvs : List (Key × V)} {ks : List (Key × D)} (h : KReps c Ψ kvs ks) {k : Key} {d : D} (e : getL ks k = some d) : ∃ v, valV kvs k = some v ∧ Rep c Ψ v d := by
  induction h with
  | nil => cases e
  | @cons k' v' d' kvs ks h t ih =>
    by_cases z : k' = k
    · refine ⟨v', valV_pos z, ?_⟩
      unfold getL at e
      rw [List.find?_cons, decide_eq_true z] at e
      cases e
      exact h
    · have e' : getL ks k = some d := by
        unfold getL at e ⊢
        rw [List.find?_cons, decide_eq_false z] at e
        exact e
      obtain ⟨v, h1, h2⟩ := ih e'
      exact ⟨v, by rw [valV_neg z]; exact h1, h2⟩
theorem KReps.merge {Ψ : Wd} {kvs : List (Key × V)} {ks : List (Key × D)} (h : KReps c Ψ kvs ks) : ∀ {acc : List (Key × V)} {acc' : List (Key × D)}, KReps c Ψ acc acc' → KReps c Ψ (mergeK acc kvs) (mergeL acc' ks) := by
  induction h with
  | nil => intro acc acc' r; exact r
  | cons h t ih => intro acc acc' r; exact ih (r.put _ h)
def keyD : D → Option Key
  | .int i => some (.inl i)
  | .str x => some (.inr x)
  | _ => none
theorem keyD_rep {Ψ : Wd} {v : V} {d : D} {k : Key} (r : Rep c Ψ v d) (h : keyD d = some k) : v = kV k := by
  cases r <;> cases h <;> rfl
end
end Sm

/-! text: Sim12 -/
set_option Elab.async false
set_option linter.all false
set_option maxRecDepth 100000
set_option maxHeartbeats 1000000
namespace Sm
open PySem PySem.Spec PyProof.Rows L2

/-! ### enumerate of a tuple -/
theorem meets_enum1 {v : Value} {o : Obj} {H : Heap → Prop} (B : Begins v o H) :
    Meets (Builtin.«enumerate.__new__» ⟨[.type "enumerate", v], []⟩) (fun _ R s => H s.heap ∧
      R (.ok (.ret (.ref (s.heap.push o).objs.size))) { s with heap := (s.heap.push o).push { cls := .type "enumerate", data := .fields #[.none, .bool false, .ref s.heap.objs.size, rawInt 0, .none, .none] } }) :=
  .of_wp fun prog w A R s h => by
    obtain ⟨hp, g, d, tk, os⟩ := s; obtain ⟨h1, h⟩ := h
    have hsub := sub_enumerate
    have q1 : ∀ {A' : Around} {E : Value → Shared → Prop} {Q : Value → Shared → Prop}, Q (.ref hp.objs.size) ⟨hp.push o, g, d, tk, os⟩ → wpAny (model prog w) A' (pyIter v) Q E ⟨hp, g, d, tk, os⟩ :=
      fun q => B.iter prog w _ _ ⟨hp, g, d, tk, os⟩ _ h1 q
    wp_walk using q1
    refine wpAny_stack_any fun st => wpAny_pure ?_
    split
    · rename_i c _ _ _ _ _
      cases (c == Value.type "enumerate")
      · wp_walk using q1
        exact ⟨_, rfl, h⟩
      · wp_walk using q1
        exact ⟨_, rfl, h⟩
    · wp_walk using q1
      exact ⟨_, rfl, h⟩
section
variable {prog : Program} {w : World} {A : Around} {E : Value → Shared → Prop} {s : Shared}
theorem enum_begins1 {v : Value} {o : Obj} {H : Heap → Prop} {Q : Value → Shared → Prop} (B : Begins v o H) (h1 : H s.heap)
    (h : ∀ h', IsEnum h' (s.heap.objs.size + 1) s.heap.objs.size 0 .none → h'.get? s.heap.objs.size = some o → h'.objs.size = s.heap.objs.size + 2 →
      (∀ b o, s.heap.get? b = some o → h'.get? b = some o) → Q (.ref (s.heap.objs.size + 1)) { s with heap := h' }) :
    wpAny (model prog w) A (call (.type "enumerate") [v]) Q E s := by
  refine callType_new F.called_enumerate (by decide) (F.typeCall_enumerate_1 _) (F.newCall_enumerate_1 _) (fun obj => F.args_object_init_2 obj _) F.entry_enumerate_new
    (meets_enum1 B) ⟨h1, ?_⟩
  have hz : (s.heap.push o).objs.size = s.heap.objs.size + 1 := Heap.size_push ..
  show _ ∧ _
  rw [hz]
  have he : IsEnum ((s.heap.push o).push { cls := .type "enumerate", data := .fields #[.none, .bool false, .ref s.heap.objs.size, rawInt 0, .none, .none] }) (s.heap.objs.size + 1) s.heap.objs.size 0 .none := by
    have := Heap.get?_push_size (s.heap.push o) (o := { cls := .type "enumerate", data := .fields #[.none, .bool false, .ref s.heap.objs.size, rawInt 0, .none, .none] }) rfl
    rw [hz] at this; exact this
  refine ⟨⟨_, he, rfl⟩, h _ he (Heap.get?_push_of_some _ (Heap.get?_push_size _ B.free)) (by rw [Heap.size_push, hz]) fun b o x => Heap.get?_push_of_some _ (Heap.get?_push_of_some _ x)⟩
end
def IteT (K : PySem.W.Frag) (a : Addr) : It :=
  ⟨fun i H => ∃ (xs : List V) (x : V), SqT K H a xs ∧ xs[i]? = some x, fun i H v H' => ∃ T x, v = .ref T ∧ H T = none ∧ H' = upd H T (.tup [.int (i : Nat), x]) ∧ ∀ xs, SqT K H a xs → xs[i]? = some x, fun i H => ∃ xs : List V, SqT K H a xs ∧ xs.length = i⟩
theorem turn_enumT {P : Program} {w : World} {K : PySem.W.Frag} {elts : List Expr} {kk : Nat} {tpos : Pos} (a e it : Addr) (hne : e ≠ it) :
    Turn P w K (.Tuple elts kk tpos) (IteT K a) [e, it] e (fun i h => (∃ old, IsEnum h e it ((i : Nat) : Int) old) ∧ h.IsTupleIter it a i) where
  mem := by simp
  obj := fun i h st b hb => by
    obtain ⟨⟨old, he⟩, ⟨o, ho, hc, hd⟩⟩ := st
    have e' : b = e ∨ b = it := by simpa using hb
    rcases e' with z | z
    · rw [z]; exact ⟨_, he, fun v q => nomatch q⟩
    · rw [z]; exact ⟨o, ho, fun v q => by rw [hd] at q; cases q⟩
  keep := fun i h h' st k => let ⟨⟨old, he⟩, hi⟩ := st; ⟨⟨old, k e (by simp) _ he⟩, hi.at fun o q => k it (by simp) o q⟩
  item := by
    intro X hP hw hK hc i pins s σ H E I hf st hg
    subst hP hw hK
    obtain ⟨⟨old, he⟩, hit⟩ := st
    obtain ⟨xs, x, hq, hx⟩ := hg
    obtain ⟨its, rv, p, hz⟩ := I.tuple hq
    obtain ⟨u, hu, ru⟩ := rv.get hx
    have hel : e < s.heap.objs.size := Heap.lt_size he
    have hil : it < s.heap.objs.size := by obtain ⟨_, q, _⟩ := hit; exact Heap.lt_size q
    have hea : e ≠ a := fun z => by
      subst z
      obtain ⟨o, ho, hcl, _⟩ := p
      rw [he] at ho
      cases ho
      exact absurd (Value.type.inj hcl) (by decide)
    have hai : a ≠ it := fun z => by
      subst z
      obtain ⟨o, ho, hcl, _⟩ := p
      obtain ⟨o', ho', hcl', _⟩ := hit
      rw [ho] at ho'
      cases ho'
      rw [hcl] at hcl'
      exact absurd (Value.type.inj hcl') (by decide)
    have hlt : i < its.toArray.size := by
      have := (List.getElem?_eq_some_iff.mp hu).1
      simpa using this
    refine wpAny_pyNext_enum_itemD (Draws.tuple (A := X.A.in1) (I.ok.hd hc) it a hai its.toArray) he ⟨hit, p⟩ hlt hne (by simp [hne, hea]) fun x' h' tk hx' ho hst' hT hsz hk => ?_
    have ex : x' = u := by
      have h1 : its.toArray[i]? = some x' := hx'
      have h2 : its[i]? = some x' := by simpa using h1
      rw [hu] at h2
      exact (Option.some.inj h2).symm
    subst ex
    obtain ⟨hit', _⟩ := hst'
    refine ⟨_, rfl, wpAny_letOwnedTupleGo_enum (s := { s with heap := h', toks := tk + 1 }) ho fun h'' he' sb => ?_⟩
    have hT2 : h''.get? s.heap.objs.size = some { cls := .type "tuple", data := .seq #[.int i tk, x'] } := (sb.2 _ (Nat.ne_of_gt hel)).trans hT
    have new : ObjOk X.prog X.w (upd H s.heap.objs.size (.tup [.int (i : Nat), x])) h'' s.heap.objs.size (.tup [.int (i : Nat), x]) :=
      ⟨by show 2 ≤ sizeLine; decide, [.int i tk, x'], .cons ⟨_, rfl⟩ (.cons ru .nil), ⟨_, hT2, rfl, _, rfl⟩⟩
    have I1 : Inv X pins σ (upd H s.heap.objs.size (.tup [.int (i : Nat), x])) { s with heap := h'', toks := tk + 1 } :=
      I.turnedNew (ch := [e, it]) (fun b ob hb q => (sb.2 b (fun z => hb (by simp [z]))).trans (hk b ob (fun z => hb (by simp [z])) (fun z => hb (by simp [z])) q)) hf (Nat.le_refl _) new
    refine ⟨.ref s.heap.objs.size, _, I1, rfl, ⟨_, x, rfl, I.hok.fresh (Nat.le_refl _), rfl, fun ys hy => by rw [I.tuple_inj hy hq]; exact hx⟩, ⟨⟨x', ?_⟩, hit'.at fun o q => (sb.2 it (Ne.symm hne)).trans q⟩, fun b hb => ?_⟩
    · have e1 : ((i + 1 : Nat) : Int) = (i : Int) + 1 := by omega
      rw [e1]; exact he'
    · have hb' : b < s.heap.objs.size := by
        have e' : b = e ∨ b = it := by simpa using hb
        rcases e' with z | z
        · rw [z]; exact hel
        · rw [z]; exact hil
      rw [upd_ne (Nat.ne_of_lt hb')]
      exact (hf b hb).1
  done := by
    intro X hP hw hK hc i pins s σ H E I hf st hg
    subst hP hw hK
    obtain ⟨⟨old, he⟩, hit⟩ := st
    obtain ⟨xs, hq, hx⟩ := hg
    obtain ⟨its, rv, p, hz⟩ := I.tuple hq
    obtain ⟨f0, f1, f2, f3, f4, f5⟩ := hf it (by simp)
    have hl := rv.length
    have hai : a ≠ it := fun z => by
      subst z
      obtain ⟨o, ho, hcl, _⟩ := p
      obtain ⟨o', ho', hcl', _⟩ := hit
      rw [ho] at ho'
      cases ho'
      rw [hcl] at hcl'
      exact absurd (Value.type.inj hcl') (by decide)
    have hi : i = its.toArray.size := by simp; omega
    subst hi
    exact wpAny_pyNext_enum_endD (Draws.tuple (A := X.A.in1) (I.ok.hd hc) it a hai its.toArray) he ⟨hit, p⟩ fun h' eb => ⟨rfl, I.turned (t' := s.toks) (fun b o hb q => eb b o hb q) f0 f1 f3 f4 f5⟩
  self := fun A i s Q E st h => let ⟨⟨_, he⟩, _⟩ := st; wpAny_pyIter_enum he h
def iEnumT (K : PySem.W.Frag) (ta : TA) : TI := fun σ H R => ta σ H fun vs H1 => ∃ a xs, vs = [.ref a] ∧ ((SqL K H1 a xs ∧ R (Ite K a) H1) ∨ (SqT K H1 a xs ∧ R (IteT K a) H1))
theorem pi_enumT {X : Cx} {e : Expr} {ta : TA} {p pos tpos : Pos} {elts : List Expr} {kk : Nat} (hg : Gl X "enumerate") (hm : X.mg "enumerate" = none) (ha : PA X [e] ta) (hs : starEach [e] X.env = [(false, eval e X.env)] := by rfl) :
    PI X (.Tuple elts kk tpos) (.Call (.Name "enumerate" p) [e] [] pos) (iEnumT X.K ta) := by
  refine ⟨fun pins s σ H R I h => ?_⟩
  refine Call_ (ld_blt I hg hm boot_enumerate (PyProof.Rows.callWith_type1 (thn (ha.run pos pins s σ H _ I h) fun us s1 ⟨vs, H1, I1, r1, q1⟩ => ?_) hs rfl))
  obtain ⟨a, xs, ex, hq⟩ := q1
  subst ex
  cases r1 with
  | cons r rr =>
    cases rr
    cases r
    have fp2 : ∀ b ∈ [s1.heap.objs.size + 1, s1.heap.objs.size], FpOk X pins H1 b := fun b hb => by
      have e' : b = s1.heap.objs.size + 1 ∨ b = s1.heap.objs.size := by simpa using hb
      have hle : s1.heap.objs.size ≤ b := by
        rcases e' with z | z
        · rw [z]; exact Nat.le_add_right _ _
        · rw [z]; exact Nat.le_refl _
      exact I1.fpOk hle (I1.hok.fresh hle)
    rcases hq with ⟨hq, q⟩ | ⟨hq, q⟩
    · obtain ⟨its, rv, p', hz⟩ := I1.list hq
      refine call_enumerate_list p'.isList fun h' he hit hsz hk => wpAny_pyIter_enum he ?_
      have I2 : Inv X pins σ H1 { s1 with heap := h' } := I1.kept (t' := s1.toks) hk
      exact ⟨s1.heap.objs.size + 1, [s1.heap.objs.size + 1, s1.heap.objs.size], _, _, H1, rfl, I2, turn_enum a (s1.heap.objs.size + 1) s1.heap.objs.size, ⟨⟨.none, he⟩, hit, Nat.succ_ne_self _⟩, fp2, q⟩
    · obtain ⟨its, rv, p', hz⟩ := I1.tuple hq
      refine enum_begins1 (begins_tuple a its.toArray) p' fun h' he hit hsz hk => wpAny_pyIter_enum he ?_
      have I2 : Inv X pins σ H1 { s1 with heap := h' } := I1.kept (t' := s1.toks) hk
      exact ⟨s1.heap.objs.size + 1, [s1.heap.objs.size + 1, s1.heap.objs.size], _, _, H1, rfl, I2, turn_enumT a (s1.heap.objs.size + 1) s1.heap.objs.size (Nat.succ_ne_self _), ⟨⟨.none, he⟩, ⟨_, hit, rfl, rfl⟩⟩, fp2, q⟩
theorem walk_enumT {K : PySem.W.Frag} {a : Addr} {xs : List V} : Walk (IteT K a) xs.length (fun H => SqT K H a xs) (YPair (fun i => some (.int (i : Nat))) (fun i => xs[i]?)) := by
  refine ⟨fun i _ hi q => ⟨xs, xs[i], q, by simp [hi]⟩, fun _ q => ⟨xs, q, rfl⟩, fun i H v H' _ q y => ?_⟩
  obtain ⟨T, x, h1, h2, h3, h4⟩ := y
  exact ⟨T, .int (i : Nat), x, h1, h2, h3, rfl, h4 xs q⟩
/-- pairs (place, item) -/
def enumL : Nat → List D → List D
  | _, [] => []
  | n, d :: ds => .tup [.int n, d] :: enumL (n + 1) ds
theorem enumL_len : ∀ (n : Nat) (ds : List D), (enumL n ds).length = ds.length
  | _, [] => rfl
  | n, d :: ds => by unfold enumL; rw [List.length_cons, List.length_cons, enumL_len]
theorem enumL_get : ∀ {n i : Nat} {ds : List D} {d : D}, (enumL n ds)[i]? = some d → ∃ x, ds[i]? = some x ∧ d = .tup [.int ((n + i : Nat) : Int), x]
  | _, _, [], _, h => by unfold enumL at h; simp at h
  | n, 0, x :: ds, d, h => by
    unfold enumL at h
    simp at h
    exact ⟨x, rfl, by rw [← h]; rfl⟩
  | n, i + 1, x :: ds, d, h => by
    unfold enumL at h
    obtain ⟨y, h1, h2⟩ := enumL_get (n := n + 1) (i := i) (ds := ds) (d := d) (by simpa using h)
    refine ⟨y, by simpa using h1, ?_⟩
    rw [h2]
    have e : n + 1 + i = n + (i + 1) := by omega
    rw [e]
section
variable {c : Cf} {X : Cx} {W : L2.St → XK} {tg e a b : Expr} {pos p tpos : Pos} {elts : List Expr} {kk : Nat}
/-- a new pair is told of -/
theorem pair_new {Ψ : Wd} {H : Hp} {S : Sto} {T : Addr} {x y : V} {dx dy : D} (so : StoOk c Ψ H S) (hT : H T = none) (rx : Rep c Ψ x dx) (ry : Rep c Ψ y dy) :
    ∃ Ψ', Ext Ψ H Ψ' (L2.upd H T (.tup [x, y])) ∧ StoOk c Ψ' (L2.upd H T (.tup [x, y])) S ∧ Rep c Ψ' (.ref T) (.tup [dx, dy]) := by
  have n := so.phiNone hT
  refine ⟨Ψ.know T (.tup [x, y]), Ext.new hT n, so.new hT, .tup (.inl (.inl (show L2.upd Ψ.fz T _ T = _ from upd_same))) (by show 2 ≤ 100000; omega) ?_⟩
  exact .cons (rx.mono (Le.know n)) (.cons (ry.mono (Le.know n)) .nil)
theorem si_enum {m : Env → M D} (h : SE c X W e m) (hm : X.mg "enumerate" = none) (hg : Gl X "enumerate" := by rfl) (hs : starEach [e] X.env = [(false, eval e X.env)] := by rfl) :
    SI c X W (.Tuple elts kk tpos) (.Call (.Name "enumerate" p) [e] [] pos) (fun ρ => bd (m ρ) fun d => bd (seqM d) fun ds => rt (enumL 0 ds)) := by
  have ha : PA X [e] (rA c W fun ρ => consM (m ρ) (rt [])) := (sa_cons h (sa_nil h.k) (by rw [hs]; rfl)).p
  refine ⟨h.k, PI.imp (pi_enumT hg hm ha hs) fun σ H R ⟨Ψ, ρ, S, F, so, eo, q⟩ => ?_⟩
  refine ⟨Ψ, ρ, S, F, so, eo, ?_⟩
  unfold consM
  have q' := q.bd
  show Post c (W σ) Ψ H (bd (m ρ) (fun x => bd (rt []) fun xs => rt (x :: xs)) S) _
  unfold bd
  cases z : m ρ S with
  | stuck => rw [z] at q'; exact q'.elim
  | err k fs S1 => rw [z] at q'; exact q'
  | ok d S1 =>
    rw [z] at q'
    show ∀ Ψ' vs H', _ → _ → _ → _
    intro Ψ1 vs H1 x1 s1 r1
    cases r1 with
    | cons r1 t =>
      cases t
      have q2 : Post c (W σ) Ψ H (bd (seqM d) (fun ds => rt (enumL 0 ds)) S1) _ := q'
      have q3 := q2.bd
      unfold seqM at q3
      have go : ∀ {a : Addr} {xs : List V} {ds : List D} {J : It} {G : Hp → Prop}, xs.length ≤ LIM → Reps c Ψ1 xs ds → Walk J xs.length G (YPair (fun i => some (.int (i : Nat))) (fun i => xs[i]?)) → (∀ Ψ S H, Le Ψ1 Ψ → StoOk c Ψ H S → G H) → ItOk c (fun Ψ2 _ => Le Ψ1 Ψ2) J (enumL 0 ds) := fun {a xs ds J G} l r wk hG => by
        refine ⟨by rw [enumL_len, ← r.length]; exact l, G, _, by rw [enumL_len, ← r.length]; exact wk, hG, fun i H2 v H3 Ψ2 S2 d2 l2 s2 hd y => ?_⟩
        obtain ⟨x, hx, e⟩ := enumL_get hd
        obtain ⟨T, y1, y2, e1, e2, e3, e4, e5⟩ := y
        cases e4
        obtain ⟨y2', h1, h2⟩ := r.get hx
        have e5' : xs[i]? = some y2 := e5
        rw [e5'] at h1; cases h1
        subst e e1 e3
        have ei : ((0 + i : Nat) : Int) = (i : Nat) := by rw [Nat.zero_add]
        rw [ei]
        exact pair_new s2 e2 (.int _) (h2.mono l2)
      split at q3
      · cases r1 with
        | lst h1 l1 r1 => exact ⟨_, _, rfl, .inl ⟨SqL.of (s1.phi _ _ h1), q3 Ψ1 _ H1 x1 s1 (go (a := 0) l1 r1 walk_enum fun Ψ S H l s => SqL.of (s.phi _ _ (l.phi _ _ h1)))⟩⟩
      · cases r1 with
        | tup h1 l1 r1 => exact ⟨_, _, rfl, .inr ⟨by rw [h.k]; exact sqT_phi s1 h1, q3 Ψ1 _ H1 x1 s1 (go (a := 0) l1 r1 walk_enumT fun Ψ S H l s => by rw [h.k]; exact sqT_phi s (l.sqT h1))⟩⟩
      · cases r1 with
        | scr h1 l1 r1 => exact ⟨_, _, rfl, .inl ⟨by rw [h.k]; exact sqL_phi s1 h1, q3 Ψ1 _ H1 x1 s1 (go (a := 0) l1 r1 walk_enum fun Ψ S H l s => by rw [h.k]; exact sqL_phi s (l.sqL h1))⟩⟩
      · exact q3.elim
end
end Sm

/-! text: Sim13 -/
set_option Elab.async false
set_option linter.all false
set_option maxRecDepth 100000
set_option maxHeartbeats 1000000
namespace Sm
open PySem PySem.Spec PyProof.Rows L2
section
variable {c : Cf} {X : Cx} {W : XK} {WW : L2.St → XK} {pos pos' apos cpos : Pos} {i j : Nat} {x y : Str} {a b e o : Expr}

/-! ### own dicts: made, read, changed -/
def pairsL : List D → Option (List (Key × D))
  | [] => some []
  | .tup [k, v] :: r => match keyD k, pairsL r with
    | some k, some r => some ((k, v) :: r)
    | _, _ => none
  | _ => none
theorem pairsL_reps {Ψ : Wd} {H : Hp} {S : Sto} (so : StoOk c Ψ H S) : ∀ {vs : List V} {ds : List D} {ks : List (Key × D)}, Reps c Ψ vs ds → pairsL ds = some ks →
    ∃ ps kvs, vs = ps.map V.ref ∧ Paired (fun p (kv : Key × V) => SqT c.K H p [kV kv.1, kv.2]) ps kvs ∧ KReps c Ψ kvs ks
  | _, _, _, .nil, h => by
    unfold pairsL at h
    cases h
    exact ⟨[], [], rfl, .nil, .nil⟩
  | _, _, _, .cons h t, e => by
    unfold pairsL at e
    split at e
    · rename_i heq
      cases heq
    · rename_i heq
      injection heq with h1 h2
      subst h1 h2
      split at e
      · rename_i k0 r0 hk hr
        cases e
        obtain ⟨ps, kvs, e1, e2, e3⟩ := pairsL_reps so t hr
        cases h with
        | tup h0 l0 r0 =>
          cases r0 with
          | cons rk t1 =>
            cases t1 with
            | cons rv t2 =>
              cases t2
              have ek := keyD_rep rk hk
              subst ek
              exact ⟨_ :: ps, (_, _) :: kvs, by rw [e1]; rfl, .cons (sqT_phi so h0) e2, .cons rv e3⟩
      · cases e
    · cases e
def dctAt (ρ : Env) (i : Nat) : M (List (Key × D)) := fun S => match ρ[i]? with
  | some (.ownD ks) => .ok ks S
  | _ => .stuck
theorem dct_at {Ψ : Wd} {σ : L2.St} {ρ : Env} {H : Hp} {F : Nat → List Addr} {S : Sto} {α : Type} {R : α → Sto → Prop} {f : List (Key × D) → M α} {V0 : XK} {Ψ0 : Wd} {H0 : Hp} (eo : EnvOk c Ψ σ ρ H F) (q : Post c V0 Ψ0 H0 (bd (dctAt ρ i) f S) R) :
    ∃ ks a kvs, ρ[i]? = some (.ownD ks) ∧ F i = [a] ∧ σ[i]? = some (some (.ref a)) ∧ H a = some (.dK kvs) ∧ KReps c Ψ kvs ks ∧ Post c V0 Ψ0 H0 (f ks S) R := by
  have q' := q.bd
  unfold dctAt at q'
  split at q'
  · rename_i ks hs
    obtain ⟨a, kvs, hF, h1, h2, l, h3⟩ := eo.slot i _ hs
    exact ⟨ks, a, kvs, hs, hF, h1, h2, KReps.of l h3, q'⟩
  · exact q'.elim
/-- x = dict([(k, v), ..]) -/
theorem ss_setDct {m : Env → M D} {p : Pos} (h : SE c X (cW W) e m) (hN : X.N.Nodup) (hm : X.mg "dict" = none) (hg : Gl X "dict" := by rfl) (hi : X.N[i]? = some x := by rfl) (hx : Loc X.env.scope x := by first | exact Or.inl rfl | exact Or.inr rfl)
    (he : starEach [e] X.env = (false, eval e X.env) :: starEach [] X.env := by rfl) (hpl : (backTo cpos (starEach [] X.env)).any (·.1) = false := by rfl)
    (hs : swapsWith (.Call (.Name "dict" p) [e] [] cpos) (some (.Name x pos')) pos.line X.env = pure false := by rfl) (hf : X.fn x = true ∨ X.env.scope.names.lookup x = some .local := by first | exact .inl rfl | exact .inr rfl) (hc : X.calm = true := by rfl) (hv : bootBuiltins "dict" = some (.type "dict") := by rfl) :
    SS c X W (.Assign [.Name x pos'] (.Call (.Name "dict" p) [e] [] cpos) pos) (fun ρ => bd (m ρ) fun d => fun S => match d with
      | .lst ds => match pairsL ds with
        | some ks => .ok (.nx (ρ.set i (.ownD (mergeL [] ks)))) S
        | none => .stuck
      | _ => .stuck) := by
  refine ⟨h.k, PS.imp (ps_set hN hi hx (pe_callTy (call_dictP hc) hg hm hv (pa_cons h.p pa_nil he) (by decide) (by decide) he hpl) hs hf) fun D σ H ⟨B, Ψ, ρ, S, F, g, q⟩ => ⟨Ψ, ρ, S, F, g.so, g.eo, (q.bd.ext g.x).mono fun d S1 q1 Ψ1 v H1 x1 s1 r1 => ?_⟩⟩
  split at q1
  · split at q1
    · rename_i ks hk
      cases r1 with
      | lst h1 l1 r1 =>
        obtain ⟨ps, kvs, rfl, e2, e3⟩ := pairsL_reps s1 r1 hk
        refine ⟨_, ps, kvs, rfl, SqL.of (s1.phi _ _ h1), h.k ▸ e2, fun p hp => ?_⟩
        have n := s1.phiNone hp
        have km := (e3.merge (acc := []) (acc' := []) .nil).to
        have g2 := g.ext (x1.trans (Ext.lay (o := .dK (mergeK [] kvs)) hp)) (s1.lay hp)
        have g3 : ∃ F', Gd c B Ψ1 (σ.set i (some (.ref p))) (ρ.set i (.ownD (mergeL [] ks))) (L2.upd H1 p (.dK (mergeK [] kvs))) F' S1 := by
          refine g2.setO i (o := some (.ref p)) (s := .ownD (mergeL [] ks)) (As := [p]) ⟨p, _, rfl, rfl, upd_same, km.1, km.2⟩ (fun b hb => ?_) (fun b hb j _ hj => ?_) (fun _ _ z => nomatch z)
          · rcases List.mem_singleton.mp hb with rfl
            have h0 : L2.upd H1 b (.dK (mergeK [] kvs)) b ≠ none := by rw [upd_same]; exact fun z => nomatch z
            exact ⟨n, s1.footNone hp, h0, g.x.dom _ (x1.dom _ hp)⟩
          · rcases List.mem_singleton.mp hb with rfl
            exact (g.eo.priv j _ hj).2.2 (x1.dom _ hp)
        obtain ⟨F', g3⟩ := g3
        exact q1 _ _ _ F' g3
    · exact q1.elim
  · exact q1.elim
/-- x[k] of an own dict -/
theorem se_dix {m : Env → M D} {px : Pos} (h : SE c X WW e m) (hu : X.A.units + 1 < cLine) (hN : X.N[i]? = some x := by rfl) (hv : Vis X.env.scope x := by first | exact Or.inl rfl | exact Or.inr (Or.inl rfl) | exact Or.inr (Or.inr rfl)) (hd : (x == ("__debug__" : Str)) = false := by decide)
    (hcd : (x == ("__classdict__" : Str)) = false := by decide) (hs : NoSl e := by exact fun _ _ => rfl) :
    SE c X WW (.Subscript (.Name x px) e pos) (fun ρ => bd (dctAt ρ i) fun ks => bd (m ρ) fun k => opt ((keyD k).bind (getL ks))) := by
  refine ⟨h.k, PE.imp (pe_dget hu (pe_var hN hv hd hcd) h.p hs) fun σ H Q ⟨Ψ, ρ, S, F, so, eo, q⟩ => ?_⟩
  obtain ⟨ks, a, kvs, hr, hF, h1, h2, kr, q⟩ := dct_at eo q
  refine ⟨.ref a, h1, Ψ, ρ, S, F, so, eo, q.bd.mono fun k S1 q1 Ψ1 kv H1 x1 s1 r1 => ?_⟩
  unfold opt at q1
  split at q1
  · rename_i d hd'
    cases hk : keyD k with
    | none => rw [hk] at hd'; cases hd'
    | some kk =>
      rw [hk] at hd'
      have hg : getL ks kk = some d := hd'
      obtain ⟨v, hv', rv⟩ := kr.get hg
      have ek := keyD_rep r1 hk
      subst ek
      have h2' : H1 a = some (.dK kvs) := x1.keep _ _ h2 (eo.priv i a (by rw [hF]; simp)).2.1
      exact ⟨a, v, rfl, by rw [← hv']; exact DGet.k h2', q1 Ψ1 v H1 x1 s1 (rv.mono x1.le)⟩
  · exact q1.elim
/-- x[k] = v, an own dict -/
theorem ss_dset {m mk : Env → M D} {px : Pos} {kx : Expr} (h : SE c X (cW W) e m) (hk : SE c X (cW W) kx mk) (hu : X.A.units + 1 < cLine) (hN : X.N[i]? = some x := by rfl) (hv : Vis X.env.scope x := by first | exact Or.inl rfl | exact Or.inr (Or.inl rfl) | exact Or.inr (Or.inr rfl)) (hd : (x == ("__debug__" : Str)) = false := by decide)
    (hcd : (x == ("__classdict__" : Str)) = false := by decide) (hs : swapsWith e (some (.Subscript (.Name x px) kx pos')) pos.line X.env = pure false := by rfl) :
    SS c X W (.Assign [.Subscript (.Name x px) kx pos'] e pos) (fun ρ => bd (m ρ) fun v => bd (dctAt ρ i) fun ks => bd (mk ρ) fun k => fun S => match keyD k with
      | some kk => if ks.length < LIM then .ok (.nx (ρ.set i (.ownD (putL ks kk v)))) S else .stuck
      | none => .stuck) := by
  refine ⟨h.k, PS.imp (ps_dput hu (pe_var hN hv hd hcd) hk.p h.p hs) fun D σ H ⟨B, Ψ, ρ, S, F, g, q⟩ => ⟨Ψ, ρ, S, F, g.so, g.eo, (q.bd.ext g.x).mono fun v S1 q1 Ψ1 vv H1 x1 s1 r1 => ?_⟩⟩
  have g1 := g.ext x1 s1
  obtain ⟨ks, a, kvs, hr, hF, h1, h2, kr, q1⟩ := dct_at g1.eo q1
  refine ⟨.ref a, h1, Ψ1, ρ, S1, F, g1.so, g1.eo, (q1.bd.ext g1.x).mono fun k S2 q2 Ψ2 kv H2 x2 s2 r2 => ?_⟩
  have g2 := g1.ext x2 s2
  split at q2
  · rename_i kk hkk
    split at q2
    · rename_i hl
      have ek := keyD_rep r2 hkk
      subst ek
      have ha : a ∈ F i := by rw [hF]; simp
      have h2' : H2 a = some (.dK kvs) := x2.keep _ _ h2 (g1.eo.priv i a ha).2.1
      have hlen : kvs.length = ks.length := by
        have := congrArg List.length kr.to.1
        rwa [List.length_map, List.length_map] at this
      have kp : KReps c Ψ2 (putK kvs kk vv) (putL ks kk v) := by
        have kr2 : KReps c Ψ2 kvs ks := KReps.of kr.to.1 (kr.to.2.mono x2.le)
        exact kr2.put kk (r1.mono x2.le)
      refine ⟨a, _, rfl, DPut.k h2' (lim_lt (by rw [hlen]; exact hl)), ?_⟩
      exact q2 Ψ2 σ _ F (g2.upd hr ha ⟨a, _, hF, h1, upd_same, kp.to.1, kp.to.2⟩ (fun _ _ z => nomatch z))
    · exact q2.elim
  · exact q2.elim

/-! ### the first place of an equal one -/
def idxE : List PyData → PyData → Option Nat
  | [], _ => none
  | y :: ys, d => if PyData.eqv y d = true then some 0 else (idxE ys d).map (· + 1)
theorem idxE_some : ∀ {ys : List PyData} {d : PyData} {j : Nat}, idxE ys d = some j → ∃ z, ys[j]? = some z ∧ PyData.eqv z d = true ∧ ∀ (m : Nat) (z' : PyData), m < j → ys[m]? = some z' → PyData.eqv z' d = false
  | [], _, _, h => by cases h
  | y :: ys, d, j, h => by
    unfold idxE at h
    split at h
    · cases h
      exact ⟨y, rfl, by assumption, fun m z' hm => by omega⟩
    · rename_i hn
      cases e : idxE ys d with
      | none => rw [e] at h; cases h
      | some k =>
        rw [e] at h
        cases h
        obtain ⟨z, h1, h2, h3⟩ := idxE_some e
        refine ⟨z, by simpa using h1, h2, fun m z' hm hz => ?_⟩
        cases m with
        | zero =>
          simp at hz
          subst hz
          simpa using hn
        | succ m =>
        have hm' : m + 1 < k + 1 := hm
        exact h3 m z' (by omega) (by simpa using hz)
def idxD : D → D → Option D := fun a b => match a.py, b.py with
  | some (.list ys), some d => if min (PyData.depthAll ys) d.depth ≤ 60 then (idxE ys d).map fun j => D.int (j : Nat) else none
  | some (.tuple ys), some d => if min (PyData.depthAll ys) d.depth ≤ 60 then (idxE ys d).map fun j => D.int (j : Nat) else none
  | _, _ => none
def rIndexP (K : PySem.W.Frag) : V → List V → Hp → VK → Prop := fun x xs H Q => ∃ (a : Addr) (y : V) (d : PyData) (ds : List PyData) (j : Nat), x = V.ref a ∧ xs = [y] ∧ Dp K H (V.ref a) (.list ds) ∧ Dp K H y d ∧
  PyData.plainAll ds = true ∧ d.plain = true ∧ min (PyData.depthAll ds) d.depth ≤ 60 ∧ idxE ds d = some j ∧ Q (.int (j : Nat)) H
theorem mt_indexP (hu : X.A.units + 64 < cLine) : MtR X "list.index" (rIndexP X.K) := by
  intro pins s σ H x xs v us Q I rx rxs h
  obtain ⟨a, y, d, ds, j, rfl, rfl, hl, hy, sl, sd, hm, hj0, q⟩ := h
  obtain ⟨z, hz, hzj, hno⟩ := idxE_some hj0
  cases rx
  cases rxs with
  | cons ry rt =>
    rename_i uy ut
    cases rt
    obtain ⟨bs, r1⟩ := Dp.reads I d y uy hy ry
    cases hl with
    | lst hs ha =>
      obtain ⟨its, rv, ⟨⟨cls, dd, data, sls⟩, n, ho, hc, hdn, hdt⟩, hlen⟩ := I.list hs
      simp only at hc hdt
      subst hc hdt
      obtain ⟨as, h4⟩ := Dp.readsAll I ds _ its ha rv
      have hmap : its.map (SeqAt.readOf s.heap) = ds := SeqAt.readsAll_map_plain ds its as sl h4
      have hn : its.length = ds.length := by rw [← hmap, List.length_map]
      have hsl := sizeLine_eq
      have hvl := rv.length
      obtain ⟨hjd, _⟩ := List.getElem?_eq_some_iff.mp hz
      have hjl : j < its.length := by omega
      have hj : j < its.toArray.size := by simpa using hjl
      have at_ : ∀ (m : Nat) (hm : m < its.toArray.size) (z' : PyData), ds[m]? = some z' → SeqAt.readOf s.heap its.toArray[m] = z' := by
        intro m hm z' hz'
        have hml : m < its.length := by simpa using hm
        rw [← hmap, List.getElem?_map, List.getElem?_eq_getElem hml] at hz'
        have e1 : SeqAt.readOf s.heap its[m] = z' := Option.some.inj (show some (SeqAt.readOf s.heap its[m]) = some z' from hz')
        simpa using e1
      refine call_meets PySem.F.slot_list_index ⟨_, ho, rfl⟩ PySem.F.entry_list_index (PySem.F.args_list_index_2 _ _)
        (SeqAt.list_indexAt a its.toArray n dd sls uy (fun u => PyData.eqv (SeqAt.readOf s.heap u) d) j hj (by omega) ?_ ?_) ⟨ho, SeqAt.items_plain (vs := its.toArray) (show ReadsAll s.heap its.toArray.toList ds as from h4) r1 sl sd (by omega), ?_⟩
      · show PyData.eqv (SeqAt.readOf s.heap its.toArray[j]) d = true
        rw [at_ j hj z hz]
        exact hzj
      · intro m hm hmj
        have hml : m < its.length := by simpa using hm
        have hmd : m < ds.length := by omega
        have hz' : ds[m]? = some ds[m] := List.getElem?_eq_getElem hmd
        show PyData.eqv (SeqAt.readOf s.heap its.toArray[m]) d = false
        rw [at_ m hm _ hz']
        exact hno m _ hmj hz'
      · exact ⟨.int (j : Nat), H, I.tok _, ⟨_, rfl⟩, q⟩
end
end Sm

/-! text: Sim14 -/
set_option Elab.async false
set_option linter.all false
set_option maxRecDepth 100000
set_option maxHeartbeats 1000000
namespace Sm
open PySem PySem.Spec PyProof.Rows L2
theorem cr_range1 {X : Cx} : CallR X (.type "range") (fun vs H Q => ∃ j, vs = [V.int j] ∧ ∀ p, H p = none → Q (.ref p) (upd H p (.rng 0 j))) := by
  intro pins s σ H vs us Q I r h
  obtain ⟨j, rfl, q⟩ := h
  obtain ⟨u1, rfl, rj⟩ := r.one
  obtain ⟨u, rfl⟩ := rj
  refine call_range_1 ⟨.ref s.heap.objs.size, upd H s.heap.objs.size (.rng 0 j), I.laid (t' := s.toks + 2) (fun b o e => Heap.get?_push_of_some _ e) (Nat.le_refl _) ?_, rfl, q _ (I.hok.fresh (Nat.le_refl _))⟩
  exact ⟨_, _, _, Heap.get?_push_size _ rfl⟩
section
variable {c : Cf} {X : Cx} {W : XK} {WW : L2.St → XK} {pos pos' apos cpos p p2 : Pos} {i j : Nat} {x y : Str} {a b e o : Expr}
def asL (d : D) : M (List D) := fun S => match d with
  | .lst ds => .ok ds S
  | _ => .stuck
/-- l.index(e) -/
theorem se_index {mo me : Env → M D} (ho : SB c X WW o mo) (h : SE c X WW e me) (hu : X.A.units + 64 < cLine) (hbase : attributeBase o "index" X.env (eval o X.env) = eval o X.env := by rfl)
    (hfew : ((backTo cpos (starEach [e] X.env)).all (fun x => !x.1) && (backToKw cpos (keywordEach [] X.env)).all (fun x => x.1.isSome)
      && decide ([e].length + ([] : List Keyword).length + (if ([] : List Keyword).isEmpty then 0 else 1) < 30)) = true := by rfl)
    (hline : (apos.endLine == cpos.line) = true := by rfl) (hs : starEach [e] X.env = (false, eval e X.env) :: starEach [] X.env := by rfl) (hplain : (backTo cpos (starEach [] X.env)).any (·.1) = false := by rfl) :
    SE c X WW (.Call (.Attribute o "index" apos) [e] [] cpos) (fun ρ => bd (mo ρ) fun d => bd (asL d) fun ds => bd (me ρ) fun y => opt (idxD (.lst ds) y)) := by
  refine ⟨h.k, PE.imp (pe_bm PySem.F.plainAttrs_list PySem.F.slot_list_index PySem.F.type_list_index (mt_indexP hu) ho.p (pa_cons h.p pa_nil hs) hbase hfew hline hs hplain) fun σ H Q ⟨Ψ, ρ, S, F, so, eo, q⟩ => ⟨Ψ, ρ, S, F, so, eo, q.bd.mono fun d S1 q1 Ψ1 v H1 x1 s1 r1 => ?_⟩⟩
  have q2 := q1.bd
  unfold asL at q2
  split at q2
  · rename_i ds
    obtain ⟨a0, vs, rfl, h0, l0, r0⟩ := (r1.h (eo.ext x1)).lst s1
    have q2' : Post c (WW σ) Ψ H (bd (me ρ) (fun y => opt (idxD (.lst ds) y)) S1) _ := q2
    refine ⟨.inl ⟨rfl, vs, SqL.of h0⟩, Ψ1, ρ, S1, F, s1, eo.ext x1, (Post.ext x1 q2').bd.mono fun y S2 q3 Ψ2 yv H2 x2 s2 r2 => ?_⟩
    unfold opt at q3
    split at q3
    · rename_i dd hd
      unfold idxD at hd
      split at hd
      · rename_i ys py h1 h2
        split at hd
        · rename_i hm
          cases hj : idxE ys py with
          | none => rw [hj] at hd; cases hd
          | some jj =>
            rw [hj] at hd
            cases hd
            have e1 := ((r1.mono x2.le).h (eo.ext (x1.trans x2))).dp s2 h1
            have e2 : Dp c.K H2 yv py := RepH.dp s2 (.inl r2) h2
            have pl1 := D.plain h1
            refine ⟨a0, yv, py, ys, jj, rfl, rfl, h.k ▸ e1, h.k ▸ e2, pl1, D.plain h2, hm, hj, ?_⟩
            exact q3 Ψ2 _ H2 (x1.trans x2) s2 (.int _)
        · cases hd
      · rename_i ys py h1 h2
        unfold D.py at h1
        split at h1 <;> cases h1
      · cases hd
    · exact q3.elim
  · exact q2.elim
/-- the index of a text in a written tuple of texts -/
def idxS (ys : List Str) (z : Str) : Option Nat := match ys with
  | [] => none
  | y :: ys => if y = z then some 0 else (idxS ys z).map (· + 1)
theorem idxS_some : ∀ {ys : List Str} {z : Str} {j : Nat}, idxS ys z = some j → ys[j]? = some z ∧ ∀ m, m < j → ys[m]? ≠ some z
  | [], _, _, h => by cases h
  | y :: ys, z, j, h => by
    unfold idxS at h
    split at h
    · cases h
      exact ⟨by rename_i e; rw [e]; rfl, fun m hm => by omega⟩
    · rename_i hn
      cases e : idxS ys z with
      | none => rw [e] at h; cases h
      | some k =>
        rw [e] at h
        cases h
        obtain ⟨h1, h2⟩ := idxS_some e
        refine ⟨by simpa using h1, fun m hm => ?_⟩
        cases m with
        | zero => simp; exact hn
        | succ m =>
          have hm' : m + 1 < k + 1 := hm
          simpa using h2 m (by omega)
/-- a tuple of texts that the top has made -/
structure KTs (K : PySem.W.Frag) (a : Addr) (ys : List Str) : Prop where
  ex : ∃ (o : Obj) (its : Array Value) (n : Nat), K.lookup a = some o ∧ o.cls = .type "tuple" ∧ o.dict = none ∧ o.data = .seq its n ∧ its.size ≤ sizeLine ∧ Vals (ys.map V.str) its.toList
theorem KTs.sqT {K : PySem.W.Frag} {a : Addr} {ys : List Str} (k : KTs K a ys) (H : Hp) : SqT K H a (ys.map V.str) := by
  obtain ⟨o, its, n, h1, h2, _, h3, h4, h5⟩ := k.ex
  exact .inr ⟨o, its, n, h1, h2, h3, h4, h5⟩
theorem KTs.rep {a : Addr} {ys : List Str} (k : KTs c.K a ys) (hl : ys.length ≤ LIM) (Ψ : Wd) : Rep c Ψ (.ref a) (.tup (ys.map D.str)) := by
  refine .tup (k.sqT _) (by rw [List.length_map]; exact hl) ?_
  clear hl k
  induction ys with
  | nil => exact .nil
  | cons y ys ih => exact .cons (.str y) ih
theorem se_kidx {me : Env → M D} {ad : Addr} {ys : List Str} (k : KTs c.K ad ys) (hg : Gl X x) (hm : X.mg x = some (.ref ad)) (h : SE c X WW e me) (hd : (x == ("__debug__" : Str)) = false := by decide) (hbase : attributeBase (.Name x p) "index" X.env (eval (.Name x p) X.env) = eval (.Name x p) X.env := by rfl)
    (hfew : ((backTo cpos (starEach [e] X.env)).all (fun x => !x.1) && (backToKw cpos (keywordEach [] X.env)).all (fun x => x.1.isSome)
      && decide ([e].length + ([] : List Keyword).length + (if ([] : List Keyword).isEmpty then 0 else 1) < 30)) = true := by rfl)
    (hline : (apos.endLine == cpos.line) = true := by rfl) (hs : starEach [e] X.env = (false, eval e X.env) :: starEach [] X.env := by rfl) (hplain : (backTo cpos (starEach [] X.env)).any (·.1) = false := by rfl) :
    SE c X WW (.Call (.Attribute (.Name x p) "index" apos) [e] [] cpos) (fun ρ => bd (me ρ) fun y => fun S => match y with
      | .str z => match idxS ys z with
        | some j => .ok (.int (j : Nat)) S
        | none => .stuck
      | _ => .stuck) := by
  refine ⟨h.k, PE.imp (pe_bm PySem.F.plainAttrs_tuple PySem.F.slot_tuple_index PySem.F.type_tuple_index mt_tup_index (pe_glob (v := .ref ad) hg hm rfl hd) (pa_cons h.p pa_nil hs) hbase hfew hline hs hplain) fun σ H Q ⟨Ψ, ρ, S, F, so, eo, q⟩ => ?_⟩
  obtain ⟨o, its, n, h1, h2, h3, h4, h5, h6⟩ := k.ex
  refine ⟨.inr (.inl ⟨rfl, o, by rw [h.k]; exact h1, h2, h3⟩), Ψ, ρ, S, F, so, eo, q.bd.mono fun y S1 q1 Ψ1 yv H1 x1 s1 r1 => ?_⟩
  split at q1
  · rename_i z
    split at q1
    · rename_i jj hj
      cases r1
      obtain ⟨g1, g2⟩ := idxS_some hj
      exact ⟨ad, ys, z, jj, rfl, rfl, by rw [h.k]; exact k.sqT _, g1, g2, q1 Ψ1 _ H1 x1 s1 (.int _)⟩
    · exact q1.elim
  · exact q1.elim
/-- i in range(n) -/
theorem st_inRng {me ma : Env → M D} (h : SE c X WW e me) (ha : SE c X WW a ma) (hm : X.mg "range" = none) (hg : Gl X "range" := by rfl) (hk : behindInMarks .In (.Call (.Name "range" p) [a] [] p2) = false := by first | rfl | with_unfolding_all rfl)
    (hs : starEach [a] X.env = (false, eval a X.env) :: starEach [] X.env := by rfl) (hpl : (backTo p2 (starEach [] X.env)).any (·.1) = false := by rfl) :
    ST c X WW (.Compare e [.In] [.Call (.Name "range" p) [a] [] p2] pos) (fun ρ => bd (me ρ) fun x => bd (ma ρ) fun y => fun S => match x, y with
      | .int i, .int j => .ok (decide (0 ≤ i ∧ i < j)) S
      | _, _ => .stuck) := by
  refine ⟨h.k, PT.imp (pt_cmpR op_in_rng h.p (pe_callTy cr_range1 hg hm boot_range (pa_cons ha.p pa_nil hs) (by decide) (by decide) hs hpl) hk) fun σ H Q ⟨Ψ, ρ, S, F, so, eo, q⟩ => ⟨Ψ, ρ, S, F, so, eo, q.bd.mono fun d S1 q1 Ψ1 v H1 x1 s1 r1 => ?_⟩⟩
  refine ⟨Ψ1, ρ, S1, F, s1, eo.ext x1, (q1.ext x1).bd.mono fun y S2 q2 Ψ2 w H2 x2 s2 r2 => ?_⟩
  split at q2
  · cases r1
    cases r2
    refine ⟨_, rfl, fun t ht => ⟨_, t, 0, _, rfl, rfl, upd_same, _, rfl, ?_⟩⟩
    exact q2 Ψ2 _ ((x1.trans x2).trans (Ext.lay ht)) (s2.lay ht)
  · exact q2.elim
/-- list(range(n)) -/
theorem sn_listRg {ma : Env → M D} (ha : SE c X WW a ma) (hml : X.mg "list" = none) (hmr : X.mg "range" = none) (hgl : Gl X "list" := by rfl) (hgr : Gl X "range" := by rfl) (hc : X.calm = true := by rfl)
    (na : starEach [.Call (.Name "range" p) [a] [] p2] X.env = (false, eval (.Call (.Name "range" p) [a] [] p2) X.env) :: starEach [] X.env := by rfl) (nb : starEach [a] X.env = (false, eval a X.env) :: starEach [] X.env := by rfl) :
    SN c X WW (.Call (.Name "list" pos) [.Call (.Name "range" p) [a] [] p2] [] cpos) (fun ρ => bd (ma ρ) fun y => fun S => match y with
      | .int j => if 0 ≤ j ∧ j ≤ 100000 then .ok (rng 0 j.toNat) S else .stuck
      | _ => .stuck) := by
  refine ⟨ha.k, PE.imp (pe_listRg hc hgl hml (prg_1 hgr hmr ha.p nb) na) fun σ H Q ⟨Ψ, ρ, S, F, so, eo, q⟩ => ⟨Ψ, ρ, S, F, so, eo, q.bd.mono fun y S1 q1 Ψ1 v H1 x1 s1 r1 => ?_⟩⟩
  split at q1
  · split at q1
    · rename_i jj hj
      cases r1
      refine ⟨jj, rfl, RgOk.of_le (by omega) (by omega) (by omega) hj.1, fun t ht => ?_⟩
      have hlen : (rgV 0 jj).length ≤ LIM := by
        rw [rgV_length]
        show _ ≤ 100000
        omega
      refine q1 Ψ1 t _ _ (x1.trans (Ext.lay ht)) (s1.lay ht) upd_same hlen ?_ (s1.phiNone ht) (s1.footNone ht) (x1.dom _ ht)
      unfold rgV rng
      have e1 : (jj - 0).toNat = jj.toNat := by rw [Int.sub_zero]
      rw [e1]
      have key : ∀ l : List Nat, Reps c Ψ1 (l.map fun (i : Nat) => V.int (0 + (i : Nat))) (l.map fun (i : Nat) => D.int (0 + (i : Nat))) := fun l => by
        induction l with
        | nil => exact .nil
        | cons i l ih => exact .cons (.int _) ih
      exact key _
    · exact q1.elim
  · exact q1.elim

/-! ### a dict of the module with text keys -/
/-- at ad: the module's dict, its values told by vs -/
structure KDt (c : Cf) (w : World) (ad : Addr) (vs : List (Str × D)) : Prop where
  at_ : ∃ es n, KDict c.K w ad es n
  get : ∀ q ∈ vs, ∃ u v, PySem.W.nsIn c.K ad q.1 = some (some u) ∧ RelV v u ∧ ∀ Ψ, Rep c Ψ v q.2
  miss : ∀ z : Str, (∀ q ∈ vs, q.1 ≠ z) → PySem.W.nsIn c.K ad z = some none
def lkS (vs : List (Str × D)) (z : Str) : Option D := (vs.find? fun q => decide (q.1 = z)).map (·.2)
theorem lkS_mem : ∀ {vs : List (Str × D)} {z : Str} {d : D}, lkS vs z = some d → (z, d) ∈ vs
  | [], _, _, h => by cases h
  | (k, d0) :: vs, z, d, h => by
    by_cases e : k = z
    · unfold lkS at h
      rw [List.find?_cons, decide_eq_true e] at h
      cases h
      subst e
      exact List.mem_cons_self
    · have h' : lkS vs z = some d := by
        unfold lkS at h ⊢
        rw [List.find?_cons, decide_eq_false e] at h
        exact h
      exact List.mem_cons_of_mem _ (lkS_mem h')
theorem lkS_none : ∀ {vs : List (Str × D)} {z : Str}, lkS vs z = none → ∀ q ∈ vs, q.1 ≠ z
  | [], _, _, _, h => by cases h
  | (k, d0) :: vs, z, h, q, hq => by
    by_cases e : k = z
    · unfold lkS at h
      rw [List.find?_cons, decide_eq_true e] at h
      cases h
    · have h' : lkS vs z = none := by
        unfold lkS at h ⊢
        rw [List.find?_cons, decide_eq_false e] at h
        exact h
      rcases List.mem_cons.mp hq with rfl | hq
      · exact e
      · exact lkS_none h' q hq
/-- x in D, x a text -/
theorem se_inKD {me : Env → M D} {ad : Addr} {vs : List (Str × D)} (k : KDt c X.w ad vs) (hg : Gl X x) (hm : X.mg x = some (.ref ad)) (h : SE c X WW e me) (hd : (x == ("__debug__" : Str)) = false := by decide) (hk : behindInMarks .In (.Name x p) = false := by first | rfl | with_unfolding_all rfl) :
    SE c X WW (.Compare e [.In] [.Name x p] pos) (fun ρ => bd (me ρ) fun y => fun S => match y with
      | .str z => .ok (.bl (lkS vs z).isSome) S
      | _ => .stuck) := by
  obtain ⟨es, n, kd⟩ := k.at_
  refine ⟨h.k, PE.imp (pe_cmpR (op_in_kd (h.k ▸ kd)) h.p (pe_glob (v := .ref ad) hg hm rfl hd) hk) fun σ H Q ⟨Ψ, ρ, S, F, so, eo, q⟩ => ⟨Ψ, ρ, S, F, so, eo, q.bd.mono fun y S1 q1 Ψ1 v H1 x1 s1 r1 => ?_⟩⟩
  split at q1
  · rename_i z
    cases r1
    cases hz : lkS vs z with
    | some d =>
      rw [hz] at q1
      obtain ⟨u, v, e1, _, _⟩ := k.get _ (lkS_mem hz)
      exact ⟨z, some u, rfl, rfl, by rw [h.k]; exact e1, q1 Ψ1 _ H1 x1 s1 (.bl _)⟩
    | none =>
      rw [hz] at q1
      exact ⟨z, none, rfl, rfl, by rw [h.k]; exact k.miss z (lkS_none hz), q1 Ψ1 _ H1 x1 s1 (.bl _)⟩
  · exact q1.elim
end
end Sm

/-! text: Sim15 -/
set_option Elab.async false
set_option linter.all false
set_option maxRecDepth 100000
set_option maxHeartbeats 1000000
namespace Sm
open PySem PySem.Spec PyProof.Rows L2
section
variable {c : Cf} {X : Cx} {W : XK} {WW : L2.St → XK} {pos pos' apos cpos p p2 : Pos} {i j k : Nat} {x y f : Str} {a b e o : Expr} {es : List Expr}
/-- D[x], a dict of the module with text keys -/
theorem se_kd {me : Env → M D} {ad : Addr} {vs : List (Str × D)} (k : KDt c X.w ad vs) (hg : Gl X x) (hm : X.mg x = some (.ref ad)) (h : SE c X WW e me) (hd : (x == ("__debug__" : Str)) = false := by decide) (hs : NoSl e := by exact fun _ _ => rfl) :
    SE c X WW (.Subscript (.Name x p) e pos) (fun ρ => bd (me ρ) fun y => fun S => match y with
      | .str z => match lkS vs z with
        | some d => .ok d S
        | none => .stuck
      | _ => .stuck) := by
  obtain ⟨es, n, kd⟩ := k.at_
  have kd' : KDict X.K X.w ad es n := h.k ▸ kd
  refine ⟨h.k, ⟨fun pins s σ H Q I q => ?_⟩⟩
  obtain ⟨Ψ, ρ, S, F, so, eo, q⟩ := q
  refine subD_of PySem.F.slot_dict_getitem.lookup hs (thn ((pe_glob (v := .ref ad) (pos := p) hg hm rfl hd).run pins s σ H (fun v H' => v = .ref ad ∧ H' = H) I ⟨rfl, rfl⟩) fun u s1 ⟨v1, H1, I1, rx, ev, eh⟩ => ?_)
  subst ev eh
  refine thn (h.p.run pins s1 σ H1 (fun yv H2 => ∃ z u0 v0, yv = .str z ∧ PySem.W.nsIn X.K ad z = some (some u0) ∧ RelV v0 u0 ∧ Q v0 H2) I1 ⟨Ψ, ρ, S, F, so, eo, q.bd.mono fun y S1 q1 Ψ1 v H1 x1 s1 r1 => ?_⟩) fun iv s2 ⟨yv, H2, I2, ry, z, u0, v0, ez, e1, e2, q2⟩ => ?_
  · split at q1
    · split at q1
      · rename_i z _ d hz
        cases r1
        obtain ⟨u, v, e1, e2, e3⟩ := k.get _ (lkS_mem hz)
        exact ⟨z, u, v, rfl, by rw [h.k]; exact e1, e2, q1 Ψ1 v H1 x1 s1 (e3 Ψ1)⟩
      · exact q1.elim
    · exact q1.elim
  · obtain rfl : u = Value.ref ad := rx
    exact ⟨kd_type kd' I2, op_item_kd kd' pins s2 σ H2 (.ref ad) yv (.ref ad) iv Q I2 rfl ry ⟨z, u0, v0, rfl, ez, e1, e2, q2⟩⟩

/-! ### instances -/
def slotM (k i : Nat) (d : D) : M D := fun S => match d with
  | .ins k' fs => match Nat.decEq k' k with
    | .isTrue _ => match fs[i]? with
      | some v => .ok v S
      | none => .stuck
    | .isFalse _ => .stuck
  | _ => .stuck
def insM (k : Nat) (d : D) : M D := fun S => match d with
  | .ins k' fs => match Nat.decEq k' k with
    | .isTrue _ => .ok (.ins k' fs) S
    | .isFalse _ => .stuck
  | _ => .stuck
/-- e.f, a slot -/
theorem se_attr {me : Env → M D} {ad : Addr} (h : SE c X WW e me) (C : SlX.SCls c.K (c.cls k)) (t : SlX.Slot1 c.K (c.cls k) f ad i) (hb : attributeBase e f X.env (eval e X.env) = eval e X.env := by rfl) :
    SE c X WW (.Attribute e f pos) (fun ρ => bd (me ρ) (slotM k i)) := by
  refine ⟨h.k, PE.imp (SlX.pe_sl h.p hb) fun σ H Q ⟨Ψ, ρ, S, F, so, eo, q⟩ => ⟨Ψ, ρ, S, F, so, eo, q.bd.mono fun d S1 q1 Ψ1 v H1 x1 s1 r1 => ?_⟩⟩
  unfold slotM at q1
  split at q1
  · split at q1
    · split at q1
      · rename_i _ ek _ _ d hd
        subst ek
        cases r1 with
        | ins h0 r0 =>
          obtain ⟨v', hv, rv⟩ := r0.get hd
          exact ⟨_, _, _, ad, _, i, v', rfl, slt_phi s1 h0, h.k ▸ C, h.k ▸ t, by rw [List.getElem?_map, hv]; rfl, q1 Ψ1 v' H1 x1 s1 rv⟩
      · exact q1.elim
    · exact q1.elim
  · exact q1.elim
/-- the facts of a property -/
structure Prp (K : PySem.W.Frag) (C : Addr) (f : Str) (p g : Addr) : Prop where
  at_ : PySem.W.findIn K (.ref C) f = some (some (.ref p))
  get : PySem.W.specialIn K (.ref p) "__get__" = some (some (.builtin "property.__get__"))
  tk : PySem.W.takesIn K (.ref p) = some true
  rc : ∃ rest, PySem.W.recIn K p "property" = some (.ref g :: rest)
theorem se_prop {me : Env → M D} {ad g : Addr} {n : Nat} {m : List D → M D} (h : SE c X WW e me) (C : SlX.SCls c.K (c.cls k)) (t : Prp c.K (c.cls k) f ad g) (G : Fn c X.prog X.w X.mg X.base n g 1 m) (hr : Room (n + 1) X.A) (hb : attributeBase e f X.env (eval e X.env) = eval e X.env := by rfl) :
    SE c X WW (.Attribute e f pos) (fun ρ => bd (me ρ) fun d => bd (insM k d) fun d => noX (callM 1 m [d])) := by
  have G' : FnR X.prog X.w X.K X.mg X.base (L2.CX X.prog X.w) n g (PromF c 1 m) := by rw [h.k]; exact G.r
  refine ⟨h.k, PE.imp (SlX.pe_propSl (E := E0) h.p (h.k ▸ C) (by rw [h.k]; exact t.at_) (by rw [h.k]; exact t.get) (by rw [h.k]; exact t.tk) (by rw [h.k]; exact t.rc) G' hr (fun H s er s' z => by
    obtain ⟨_, _, _, _, _, _, _, _, _, _, _, _, z⟩ := z
    exact z.elim) hb) fun σ H Q ⟨Ψ, ρ, S, F, so, eo, q⟩ => ⟨Ψ, ρ, S, F, so, eo, q.bd.mono fun d S1 q1 Ψ1 v H1 x1 s1 r1 => ?_⟩⟩
  have q2 := q1.bd
  unfold insM at q2
  split at q2
  · split at q2
    · rename_i _ fs _ ek _
      subst ek
      have q3 : Post c (WW σ) Ψ H (noX (callM 1 m [.ins _ fs]) S1) _ := q2
      cases r1 with
      | ins h0 r0 =>
        refine ⟨_, _, _, rfl, slt_phi s1 h0, ?_⟩
        exact prom_of (E := E0) (ds := [.ins _ fs]) s1 (.cons (.ins h0 r0) .nil) ((Post.noX (W' := E0) q3).ext x1) fun d' S' Ψ' v H' q4 e2 s2 r2 => q4 Ψ' v H' (x1.trans e2) s2 r2
    · exact q2.elim
  · exact q2.elim
theorem passes_wx {E : XK} (tk : Takes X (wx (cW E))) : Passes (L2.CX X.prog X.w) X E := fun _ _ _ _ e s' I z => tk e s' (XE.of_call I (fun _ _ _ h => h) z)
/-- o.m(e, ..) of an instance -/
theorem se_meth {mo : Env → M D} {ma : Env → M (List D)} {g : Addr} {n nn : Nat} {m : List D → M D} {E : XK} {nm : Str} {pl : Sem Bool} (ho : SE c X (cW E) o mo) (ha : SA c X (cW E) (e :: es) ma) (C : SlX.SCls c.K (c.cls k)) (hm : Meth c.K (c.cls k) nm g) (G : Fn c X.prog X.w X.mg X.base n g nn m) (hr : Room n X.A) (tk : Takes X (wx (cW E)))
    (hst : starEach (e :: es) X.env = (false, eval e X.env) :: starEach es X.env := by rfl) (hpl : (backTo pos (starEach es X.env)).any (·.1) = false := by rfl)
    (ht : eval (.Call (.Attribute o nm apos) (e :: es) [] pos) X.env = (do
      let ov ← eval o X.env
      standAt apos.atName
      let (f, first) ← holding [ov] (getMethod ov nm pl)
      callWith pos f first (backTo pos (starEach (e :: es) X.env)) (backToKw pos (keywordEach [] X.env))) := by rfl) :
    SE c X (cW E) (.Call (.Attribute o nm apos) (e :: es) [] pos) (fun ρ => bd (mo ρ) fun d => bd (insM k d) fun d => bd (ma ρ) fun ds => callM nn m (d :: ds)) := by
  have G' : FnR X.prog X.w X.K X.mg X.base (L2.CX X.prog X.w) n g (PromF c nn m) := by rw [ho.k]; exact G.r
  refine ⟨ho.k, PE.imp (SlX.pe_methSl ho.p (ho.k ▸ C) (ho.k ▸ hm) G' hr (passes_wx tk) ha.p hst hpl ht) fun σ H Q ⟨Ψ, ρ, S, F, so, eo, q⟩ => ⟨Ψ, ρ, S, F, so, eo, q.bd.mono fun d S1 q1 Ψ1 v H1 x1 s1 r1 => ?_⟩⟩
  have q2 := q1.bd
  unfold insM at q2
  split at q2
  · split at q2
    · rename_i _ fs _ ek _
      subst ek
      have q3 : Post c E Ψ H (bd (ma ρ) (fun ds => callM nn m (.ins _ fs :: ds)) S1) _ := q2
      cases r1 with
      | ins h0 r0 =>
        refine ⟨_, _, _, rfl, slt_phi s1 h0, Ψ1, ρ, S1, F, s1, eo.ext x1, (Post.ext x1 q3).bd.mono fun ds S2 q4 Ψ2 ws H2 x2 s2 r2 => ?_⟩
        exact prom_of (ds := .ins _ fs :: ds) s2 (.cons (Rep.mono x2.le (.ins h0 r0)) r2) (q4.ext x2) fun d' S' Ψ' v H' q5 e2 s3 r3 => q5 Ψ' v H' ((x1.trans x2).trans e2) s3 r3
    · exact q2.elim
  · exact q2.elim
theorem se_meth0 {mo : Env → M D} {g : Addr} {n nn : Nat} {m : List D → M D} {E : XK} {nm : Str} {pl : Sem Bool} (ho : SE c X (cW E) o mo) (C : SlX.SCls c.K (c.cls k)) (hm : Meth c.K (c.cls k) nm g) (G : Fn c X.prog X.w X.mg X.base n g nn m) (hr : Room n X.A) (tk : Takes X (wx (cW E)))
    (ht : eval (.Call (.Attribute o nm apos) [] [] pos) X.env = (do
      let ov ← eval o X.env
      standAt apos.atName
      let (f, first) ← holding [ov] (getMethod ov nm pl)
      callWith pos f first (backTo pos (starEach [] X.env)) (backToKw pos (keywordEach [] X.env))) := by rfl) :
    SE c X (cW E) (.Call (.Attribute o nm apos) [] [] pos) (fun ρ => bd (mo ρ) fun d => bd (insM k d) fun d => callM nn m [d]) := by
  have G' : FnR X.prog X.w X.K X.mg X.base (L2.CX X.prog X.w) n g (PromF c nn m) := by rw [ho.k]; exact G.r
  refine ⟨ho.k, PE.imp (SlX.pe_methSl0 ho.p (ho.k ▸ C) (ho.k ▸ hm) G' hr (passes_wx tk) ht) fun σ H Q ⟨Ψ, ρ, S, F, so, eo, q⟩ => ⟨Ψ, ρ, S, F, so, eo, q.bd.mono fun d S1 q1 Ψ1 v H1 x1 s1 r1 => ?_⟩⟩
  have q2 := q1.bd
  unfold insM at q2
  split at q2
  · split at q2
    · rename_i _ fs _ ek _
      subst ek
      have q3 : Post c E Ψ H (callM nn m [.ins _ fs] S1) _ := q2
      cases r1 with
      | ins h0 r0 =>
        refine ⟨_, _, _, rfl, slt_phi s1 h0, ?_⟩
        exact prom_of (ds := [.ins _ fs]) s1 (.cons (.ins h0 r0) .nil) (q3.ext x1) fun d' S' Ψ' v H' q5 e2 s3 r3 => q5 Ψ' v H' (x1.trans e2) s3 r3
    · exact q2.elim
  · exact q2.elim

/-! ### made -/
def allS : List (Option D) → Option (List D)
  | [] => some []
  | some d :: r => (allS r).map (d :: ·)
  | none :: _ => none
def iniE (ρ : Env) : M D := fun S => match ρ[0]? with
  | some (Slot.ownI k fs) => match allS fs with
    | some ds => .ok (.ins k ds) S
    | none => .stuck
  | _ => .stuck
def iniM (o : Out) : M D := match o with
  | .nx ρ => iniE ρ
  | _ => stk
def initM (n nf k : Nat) (mb : Env → M Out) (ds : List D) : M D := bd (mb (.ownI k (List.replicate nf none) :: (ds.map Slot.val ++ List.replicate (n - 1 - ds.length) .no))) iniM
def PromI (c : Cf) (n k : Nat) (m : List D → M D) : Sp := fun vs H Q E => ∃ Ψ S ds H0 a dx ws, vs = .ref a :: ws ∧ H0 a = none ∧ H0 dx = none ∧ dx ≠ a ∧ H = upd (upd H0 dx (.own a)) a (.ins (c.cls k) dx []) ∧ StoOk c Ψ H0 S ∧ Reps c Ψ ws ds ∧ ds.length = n ∧
  Post c E Ψ H0 (m ds S) (fun d S' => ∀ Ψ' H', Ext Ψ H0 Ψ' H' → StoOk c Ψ' H' S' → Rep c Ψ' (.ref a) d → Q .non H')
theorem Ext.knowP {Ψ0 Ψ : Wd} {H0 H : Hp} {a : Addr} {o : HO} (x : Ext Ψ0 H0 Ψ H) (h : H0 a = none) (n : Ψ.fz a = none) : Ext Ψ0 H0 (Ψ.know a o) H :=
  ⟨x.le.trans (Le.know n), x.dom, fun b u e => by
    by_cases z : b = a
    · subst z; exact .inr h
    · have e' : L2.upd Ψ.fz a o b = some u := e
      rw [upd_ne z] at e'
      exact x.nphi b u e', x.nmu, x.keep⟩
theorem RepsO.all {Ψ : Wd} : ∀ {fs : List (Option D)} {vs : List (Option V)} {ds : List D}, allS fs = some ds → vs.length ≤ fs.length → RepsO c Ψ vs fs → ∃ ws, vs = ws.map some ∧ Reps c Ψ ws ds
  | [], [], _, h, _, _ => by
    cases h
    exact ⟨[], rfl, .nil⟩
  | [], _ :: _, _, _, l, _ => by cases l
  | none :: _, _, _, h, _, _ => by cases h
  | some d :: fs, vs, ds, h, l, r => by
    unfold allS at h
    cases e : allS fs with
    | none => rw [e] at h; cases h
    | some ds' =>
      rw [e] at h
      cases h
      obtain ⟨v, h1, h2⟩ := r 0 d rfl
      cases vs with
      | nil => cases h1
      | cons v0 vs =>
        have e0 : v0 = some v := Option.some.inj h1
        subst e0
        obtain ⟨ws, e1, e2⟩ := RepsO.all (vs := vs) e (Nat.le_of_succ_le_succ l) fun i d hi => r (i + 1) d hi
        exact ⟨v :: ws, by rw [e1]; rfl, .cons h2 e2⟩
end
section
variable {c : Cf} {P : Program} {w : World} {mg : Str → Option Value} {base : Heap} {x qual : Str} {params : Arguments} {body : List Stmt} {scope : Scope} {dvs : List V} {kws : List (Str × V)} {f : Addr} {fd : FuncData} {N ps : List Str} {k nf kc : Nat} {mb : Env → M Out}
theorem env_init {Ψ : Wd} {H0 : Hp} {N : List Str} {ws : List V} {ds : List D} {a dx : Addr} (r : Reps c Ψ ws ds) {S : Sto} (so : StoOk c Ψ H0 S) (ha : H0 a = none) (hdx : H0 dx = none) (ne : dx ≠ a) (hN : 1 ≤ N.length) :
    EnvOk c Ψ (L2.start N (.ref a :: ws)) (.ownI kc (List.replicate nf none) :: (ds.map Slot.val ++ List.replicate (N.length - 1 - ds.length) .no)) (upd (upd H0 dx (.own a)) a (.ins (c.cls kc) dx [])) (fun j => if j = 0 then [a, dx] else []) := by
  have hl := r.length
  have e1 := env_start (c := c) (Ψ := Ψ) (H := upd (upd H0 dx (.own a)) a (.ins (c.cls kc) dx [])) (N := N.tail) r
  have hs : L2.start N (.ref a :: ws) = some (.ref a) :: L2.start N.tail ws := by
    unfold L2.start
    rw [List.map_cons, List.length_cons, List.length_tail, List.cons_append]
    congr 3
    omega
  have hd : N.tail.length - ds.length = N.length - 1 - ds.length := by rw [List.length_tail]
  rw [hd] at e1
  rw [hs]
  have hb : ∀ j b, b ∈ (if j = 0 then [a, dx] else []) → j = 0 ∧ (b = a ∨ b = dx) := fun j b h => by
    by_cases z : j = 0
    · rw [if_pos z] at h
      simp at h
      exact ⟨z, h⟩
    · rw [if_neg z] at h
      cases h
  refine ⟨by rw [List.length_cons, List.length_cons, e1.len], fun j s hj => ?_, fun j hj => ?_, fun j b h => ?_, fun j l b n h1 h2 => ?_⟩
  · cases j with
    | zero =>
      cases hj
      have ndx : (upd (upd H0 dx (.own a)) a (.ins (c.cls kc) dx [])) dx ≠ none := by
        rw [upd_ne ne, upd_same]; exact fun z => nomatch z
      exact ⟨a, dx, [], rfl, rfl, .inl ⟨upd_same, rfl⟩, ndx, ne, Nat.zero_le _, fun i d hi => by
        rw [List.getElem?_replicate] at hi
        split at hi
        · cases hi
        · cases hi⟩
    | succ j => exact e1.slot j s hj
  · cases j with
    | zero => cases hj
    | succ j => rfl
  · obtain ⟨_, h2⟩ := hb j b h
    have p1 : Ψ.fz b = none ∧ ¬ Foot Ψ b := by
      rcases h2 with rfl | rfl
      · exact ⟨so.phiNone ha, so.footNone ha⟩
      · exact ⟨so.phiNone hdx, so.footNone hdx⟩
    refine ⟨p1.1, p1.2, ?_⟩
    rcases h2 with rfl | rfl
    · rw [upd_same]; exact fun z => nomatch z
    · rw [upd_ne ne, upd_same]; exact fun z => nomatch z
  · obtain ⟨z1, _⟩ := hb j b h1
    obtain ⟨z2, _⟩ := hb l b h2
    exact n (z1.trans z2.symm)
theorem initOk_mk {n : Nat} (F : FunD c.K x qual params body scope dvs kws f fd) (sc : FnScope N ps scope) (hn : ps.length = n + 1) (hN : 1 ≤ N.length)
    (hbody : ∀ (cdv : Value) (A : Around) (outer : List PySem.Env) (s : Shared) (H : Hp) (E : XK), Room k (A.deeper (envOfC qual scope s.heap.objs.size f cdv)) → SSs c (cxOf (L2.CX P w) P w c.K mg base N qual scope f cdv A outer s H E) E body mb) :
    FnOk P w c.K mg base (L2.CX P w) (k + 1) f fd ps (PromI c n kc (initM N.length nf kc mb)) := by
  refine F.ok sc (fun vs H Q E h => ?_) fun cdv A outer s H vs Q E hr h => ⟨_, (hbody cdv A outer s H E hr).p, ?_⟩
  · obtain ⟨Ψ, S, ds, H0, a, dx, ws, rfl, _, _, _, _, _, r, l, _⟩ := h
    rw [List.length_cons, r.length, l, hn]
  · obtain ⟨Ψ, S, ds, H0, a, dx, ws, rfl, ha, hdx, ne, rfl, so, r, l, q⟩ := h
    have hda : (upd H0 dx (.own a)) a = none := by rw [upd_ne (Ne.symm ne)]; exact ha
    refine ⟨⟨Ψ, H0, a⟩, Ψ, _, S, _, ⟨(Ext.lay hdx).trans (Ext.lay hda), (so.lay hdx).lay hda, env_init r so ha hdx ne hN, fun j b h => ?_, fun k fs h => ?_⟩, (Post.bd q).mono fun o S' q' => ?_⟩
    · by_cases z : j = 0
      · simp only [z, if_true] at h
        simp at h
        rcases h with rfl | rfl
        · exact ha
        · exact hdx
      · rw [if_neg z] at h
        cases h
    · unfold L2.start
      rfl
    · cases o with
      | nx ρ =>
        intro Ψ' σ' H' F' g
        have q2 : Post c E Ψ H0 (iniE ρ S') _ := q'
        unfold iniE at q2
        split at q2
        · rename_i k' fs hs
          split at q2
          · rename_i dl hall
            obtain ⟨a', dx', vs, hF, h1, h2, h3, h4, h5, h6⟩ := g.eo.slot 0 _ hs
            have em := g.me k' fs hs
            rw [h1] at em
            have ea : a' = a := by
              have := Option.some.inj (Option.some.inj em)
              injection this
            subst ea
            obtain ⟨ws', ev, rw'⟩ := RepsO.all hall h5 h6
            subst ev
            have pa := g.eo.priv 0 a' (by rw [hF]; simp)
            have pd := g.eo.priv 0 dx' (by rw [hF]; simp)
            have fa := g.fr 0 a' (by rw [hF]; simp)
            have fd' := g.fr 0 dx' (by rw [hF]; simp)
            obtain ⟨oa, hoa⟩ : ∃ oa, H' a' = some oa := by
              cases e : H' a' with
              | none => exact absurd e pa.2.2
              | some oa => exact ⟨oa, rfl⟩
            obtain ⟨od, hod⟩ : ∃ od, H' dx' = some od := by
              cases e : H' dx' with
              | none => exact absurd e pd.2.2
              | some od => exact ⟨od, rfl⟩
            have nd : (Ψ'.know a' oa).fz dx' = none := by
              show L2.upd Ψ'.fz a' oa dx' = none
              rw [upd_ne h4]; exact pd.1
            have so2 := (g.so.know hoa pa.1 pa.2.1).know hod nd pd.2.1
            have x2 := (Ext.knowP (o := oa) g.x fa pa.1).knowP (o := od) fd' nd
            have le2 : Le Ψ' ((Ψ'.know a' oa).know dx' od) := (Le.know pa.1).trans (Le.know nd)
            refine q2 _ H' x2 so2 (.ins (dx := dx') (vs := ws') ?_ (rw'.mono le2))
            have k1 : ((Ψ'.know a' oa).know dx' od).fz a' = some oa := by
              show L2.upd (L2.upd Ψ'.fz a' oa) dx' od a' = _
              rw [upd_ne (Ne.symm h4), upd_same]
            have k2 : ((Ψ'.know a' oa).know dx' od).fz dx' = some od := upd_same
            rcases h2 with ⟨z1, z2⟩ | ⟨z1, z2⟩
            · rw [hoa] at z1
              exact .inl ⟨by rw [k1]; exact z1, z2⟩
            · rw [hoa] at z1
              rw [hod] at z2
              exact .inr ⟨by rw [k1]; exact z1, by rw [k2]; exact z2⟩
          · exact q2.elim
        · exact q2.elim
      | ret d => exact q'.elim
      | bk ρ => exact q'.elim
      | ct ρ => exact q'.elim
end
end Sm

/-! text: Sim16 -/
set_option Elab.async false
set_option linter.all false
set_option maxRecDepth 100000
set_option maxHeartbeats 1000000
namespace Sm
open PySem PySem.Spec PyProof.Rows L2
/-- keywords' values -/
structure SK (c : Cf) (X : Cx) (W : L2.St → XK) (kws : List Keyword) (m : Env → M (List D)) : Prop where
  k : X.K = c.K
  p : PK X kws (rA c W m)
theorem PK.imp {X : Cx} {es : List Keyword} {t u : TA} (h : PK X es t) (k : ∀ σ H Q, u σ H Q → t σ H Q) : PK X es u := ⟨fun pos pins s σ H Q I q => h.run pos pins s σ H Q I (k _ _ _ q)⟩
section
variable {c : Cf} {X : Cx} {W : L2.St → XK} {e : Expr} {kws : List Keyword} {nm : Option Str} {kpos : Pos}
theorem sk_nil (k : X.K = c.K) : SK c X W [] (fun _ => rt []) := ⟨k, PK.imp pk_nil fun σ H Q ⟨Ψ, ρ, S, F, so, eo, q⟩ => q Ψ [] H (Ext.refl _ _) so .nil⟩
theorem sk_cons {m : Env → M D} {ms : Env → M (List D)} (h : SE c X W e m) (t : SK c X W kws ms) : SK c X W (⟨nm, e, kpos⟩ :: kws) (fun ρ => consM (m ρ) (ms ρ)) := by
  refine ⟨h.k, PK.imp (pk_cons h.p t.p) fun σ H Q ⟨Ψ, ρ, S, F, so, eo, q⟩ => ⟨Ψ, ρ, S, F, so, eo, q.bd.mono fun d S1 q1 Ψ1 x H1 e1 so1 r1 => ?_⟩⟩
  refine ⟨Ψ1, ρ, S1, F, so1, eo.ext e1, (q1.ext e1).bd.mono fun ds S2 q2 Ψ2 xs H2 e2 so2 r2 => ?_⟩
  exact q2 Ψ2 _ H2 (e1.trans e2) so2 (.cons (r1.mono e2.le) r2)
end
section
variable {c : Cf} {P : Program} {w : World} {mg : Str → Option Value} {base : Heap} {f : Addr} {fd : FuncData} {ps : List Str} {k n : Nat} {m : List D → M D}
/-- a def with its defaults (in ds: all that lack) -/
theorem fn_dfl {ds : List Value} {dvs : List V} {des : List D} (F : FnOk P w c.K mg base (L2.CX P w) k f fd ps (PromF c ps.length m)) (kp : PySem.W.keepIn c.K (.ref f) = true) (hb : Binds c.K fd ps ds) (hd : Vals dvs ds) (r : ∀ Ψ, Reps c Ψ dvs des) (hn : n + des.length = ps.length) :
    Fn c P w mg base k f n (fun xs => m (xs ++ des)) := by
  refine ⟨(F.raw hb hd).imp fun vs H Q E ⟨Ψ, S, xs, so, rr, l, q⟩ => ⟨Ψ, S, xs ++ des, so, rr.app (r Ψ), by rw [List.length_append, l, hn], q⟩, kp⟩
/-- a class that may be made: k args, its number kc -/
structure Mk1 (c : Cf) (P : Program) (w : World) (mg : Str → Option Value) (base : Heap) (k kc n : Nat) (m : List D → M D) : Prop where
  ex : ∃ (f : Addr) (fd : FuncData) (ps : List Str) (ds : List Value) (dvs : List V) (des : List D), Mk c.K (c.cls kc) f ∧ FnOk P w c.K mg base (L2.CX P w) k f fd ps (PromI c (n + des.length) kc (fun xs => m xs)) ∧ Binds c.K fd ps ds ∧ Vals dvs ds ∧ ∀ Ψ, Reps c Ψ dvs des
end
section
variable {c : Cf} {X : Cx} {W : XK} {pos pos' apos cpos p p2 : Pos} {i j k kc n : Nat} {x y f : Str} {a b e o : Expr} {es : List Expr} {kws : List Keyword}
/-- C(e, ..) -/
theorem se_make {ma : Env → M (List D)} {m : List D → M D} {g : Addr} {fd : FuncData} {ps : List Str} {E : XK} {ad : Addr} (M : Mk c.K (c.cls kc) g) (F : FnOk X.prog X.w c.K X.mg X.base (L2.CX X.prog X.w) k g fd ps (PromI c n kc m)) (hb : Binds c.K fd ps []) (hr : Room (k + 1) X.A) (hm : X.mg x = some (.ref (c.cls kc))) (tk : Takes X (wx (cW E)))
    (ha : SA c X (cW E) (e :: es) ma) (hg : Gl X x := by rfl) (hdb : (x == ("__debug__" : Str)) = false := by decide) (he : starEach (e :: es) X.env = (false, eval e X.env) :: starEach es X.env := by rfl) (hpl : (backTo pos (starEach es X.env)).any (·.1) = false := by rfl) :
    SE c X (cW E) (.Call (.Name x p) (e :: es) [] pos) (fun ρ => bd (ma ρ) fun ds => callM n m ds) := by
  have F' : FnOk X.prog X.w X.K X.mg X.base (L2.CX X.prog X.w) k g fd ps (PromI c n kc m) := by rw [ha.k]; exact F
  have hb' : Binds X.K fd ps [] := by rw [ha.k]; exact hb
  have M' : Mk X.K (c.cls kc) g := by rw [ha.k]; exact M
  refine ⟨ha.k, PE.imp (pe_make M' F' hr hg hm hb' .nil (passes_wx tk) ha.p hdb he hpl) fun σ H Q ⟨Ψ, ρ, S, Fo, so, eo, q⟩ => ⟨Ψ, ρ, S, Fo, so, eo, q.bd.mono fun ds S1 q1 Ψ1 vs H1 e1 so1 r1 => ?_⟩⟩
  intro a' dx hx hdx ne
  unfold callM at q1
  split at q1
  · rename_i hl _
    rw [List.append_nil]
    exact ⟨Ψ1, S1, ds, H1, a', dx, vs, rfl, hx, hdx, ne, rfl, so1, r1, hl, (q1.ext e1).mono fun d S' q2 Ψ' H' e2 s2 r2 => ⟨rfl, q2 Ψ' _ H' (e1.trans e2) s2 r2⟩⟩
  · exact q1.elim
/-- C(k = v, ..): all by keywords -/
theorem se_makeK {mk : Env → M (List D)} {m : List D → M D} {g : Addr} {fd : FuncData} {ps ks : List Str} {E : XK} {gg : List Value → List Value → List Value} {gV : List V → List V → List V} {gD : List D → List D} (M : Mk c.K (c.cls kc) g) (F : FnOk X.prog X.w c.K X.mg X.base (L2.CX X.prog X.w) k g fd ps (PromI c n kc m)) (hb : KBn c.K fd ps 1 ks gg gV)
    (hgV : ∀ (Ψ : Wd) (v : V) (zs : List V) (ds : List D), Reps c Ψ zs ds → zs.length = ks.length → ∃ ws, gV [v] zs = v :: ws ∧ Reps c Ψ ws (gD ds)) (hr : Room (k + 1) X.A) (hm : X.mg x = some (.ref (c.cls kc))) (tk : Takes X (wx (cW E)))
    (hk : SK c X (cW E) kws mk) (hg : Gl X x := by rfl) (hall : (backToKw pos (keywordEach kws X.env)).all (·.1.isSome) = true := by rfl) (hks : (backToKw pos (keywordEach kws X.env)).filterMap (·.1) = ks := by rfl) (hdb : (x == ("__debug__" : Str)) = false := by decide)
    (hpl : ((backTo pos (starEach [] X.env)).any (·.1) || (backToKw pos (keywordEach kws X.env)).any (·.1.isNone)) = false := by rfl) :
    SE c X (cW E) (.Call (.Name x p) [] kws pos) (fun ρ => bd (mk ρ) fun ds => bd (opt (if ds.length = ks.length then some () else none)) fun _ => callM n m (gD ds)) := by
  have F' : FnOk X.prog X.w X.K X.mg X.base (L2.CX X.prog X.w) k g fd ps (PromI c n kc m) := by rw [hk.k]; exact F
  have hb' : KBn X.K fd ps 1 ks gg gV := by rw [hk.k]; exact hb
  have M' : Mk X.K (c.cls kc) g := by rw [hk.k]; exact M
  refine ⟨hk.k, PE.imp (pe_makeK0 M' F' hr hg hm hb' (passes_wx tk) hk.p hall hks hdb hpl) fun σ H Q ⟨Ψ, ρ, S, Fo, so, eo, q⟩ => ?_⟩
  refine ⟨Ψ, ρ, S, Fo, so, eo, q.bd.mono fun ds S1 q1 Ψ1 zs H1 e1 so1 r1 => ?_⟩
  have q2 := q1.bd
  unfold opt at q2
  split at q2
  · rename_i hl
    split at hl
    · rename_i hl2
      refine ⟨rfl, by rw [r1.length]; exact hl2, fun a' dx hx hdx ne => ?_⟩
      obtain ⟨ws, ew, rw'⟩ := hgV Ψ1 (.ref a') zs ds r1 (by rw [r1.length]; exact hl2)
      have q3 : Post c E Ψ H (callM n m (gD ds) S1) _ := q2
      unfold callM at q3
      split at q3
      · rename_i hl3 _
        rw [ew]
        exact ⟨Ψ1, S1, gD ds, H1, a', dx, ws, rfl, hx, hdx, ne, rfl, so1, rw', hl3, (q3.ext e1).mono fun d S' q2 Ψ' H' e2 s2 r2 => ⟨rfl, q2 Ψ' _ H' (e1.trans e2) s2 r2⟩⟩
      · exact q3.elim
    · cases hl
  · exact q2.elim
/-- f(e, .., k = v, ..) -/
theorem se_callK {ma mk : Env → M (List D)} {m : List D → M D} {g : Addr} {fd : FuncData} {ps ks : List Str} {E : XK} {gg : List Value → List Value → List Value} {gV : List V → List V → List V} {gD : List D → List D → List D} (F : FnOk X.prog X.w c.K X.mg X.base (L2.CX X.prog X.w) k g fd ps (PromF c ps.length m)) (kp : PySem.W.keepIn c.K (.ref g) = true) (hb : KBn c.K fd ps n ks gg gV)
    (hgV : ∀ (Ψ : Wd) (vs zs : List V) (es ds : List D), Reps c Ψ vs es → Reps c Ψ zs ds → vs.length = n → zs.length = ks.length → Reps c Ψ (gV vs zs) (gD es ds)) (hr : Room k X.A) (hm : X.mg x = some (.ref g)) (tk : Takes X (wx (cW E)))
    (ha : SA c X (cW E) (e :: es) ma) (hk : SK c X (cW E) kws mk) (hg : Gl X x := by rfl) (hall : (backToKw pos (keywordEach kws X.env)).all (·.1.isSome) = true := by rfl) (hks : (backToKw pos (keywordEach kws X.env)).filterMap (·.1) = ks := by rfl)
    (hdb : (x == ("__debug__" : Str)) = false := by decide) (he : starEach (e :: es) X.env = (false, eval e X.env) :: starEach es X.env := by rfl)
    (hpl : ((backTo pos (starEach (e :: es) X.env)).any (·.1) || (backToKw pos (keywordEach kws X.env)).any (·.1.isNone)) = false := by rfl) :
    SE c X (cW E) (.Call (.Name x p) (e :: es) kws pos) (fun ρ => bd (ma ρ) fun ds => bd (mk ρ) fun zs => bd (opt (if ds.length = n ∧ zs.length = ks.length then some () else none)) fun _ => callM ps.length m (gD ds zs)) := by
  have F' : FnOk X.prog X.w X.K X.mg X.base (L2.CX X.prog X.w) k g fd ps (PromF c ps.length m) := by rw [hk.k]; exact F
  have hb' : KBn X.K fd ps n ks gg gV := by rw [hk.k]; exact hb
  refine ⟨hk.k, PE.imp (pe_callN F' hr hg hm (by rw [hk.k]; exact kp) hb' (passes_wx tk) ha.p hk.p hall hks hdb he hpl) fun σ H Q ⟨Ψ, ρ, S, Fo, so, eo, q⟩ => ?_⟩
  refine ⟨Ψ, ρ, S, Fo, so, eo, q.bd.mono fun ds S1 q1 Ψ1 vs H1 e1 so1 r1 => ⟨Ψ1, ρ, S1, Fo, so1, eo.ext e1, (q1.ext e1).bd.mono fun zd S2 q2 Ψ2 zs H2 e2 so2 r2 => ?_⟩⟩
  have q3 := q2.bd
  unfold opt at q3
  split at q3
  · rename_i hl
    split at hl
    · rename_i hl2
      have lv : vs.length = n := by rw [r1.length]; exact hl2.1
      have lz : zs.length = ks.length := by rw [r2.length]; exact hl2.2
      refine ⟨lv, lz, ?_⟩
      have q4 : Post c E Ψ1 H1 (callM ps.length m (gD ds zd) S2) _ := q3
      exact prom_of so2 (hgV Ψ2 vs zs ds zd (r1.mono e2.le) r2 lv lz) (q4.ext e2) fun d' S' Ψ' v H' q5 e3 s3 r3 => q5 Ψ' v H' ((e1.trans e2).trans e3) s3 r3
    · cases hl
  · exact q3.elim

/-! ### self.f = e in __init__ -/
def selfM (k i : Nat) (ρ : Env) (v : D) : M Out := fun S => match ρ[0]? with
  | some (Slot.ownI k' fs) => match Nat.decEq k' k with
    | .isTrue _ => if i < fs.length then .ok (.nx (ρ.set 0 (.ownI k' (fs.set i (some v))))) S else .stuck
    | .isFalse _ => .stuck
  | _ => .stuck
theorem ss_self {me : Env → M D} {ad : Addr} {px : Pos} (h : SE c X (cW W) e me) (C : SlX.SCls c.K (c.cls k)) (t : SlX.Slot1 c.K (c.cls k) f ad i) (hN : X.N[0]? = some x := by rfl) (hv : Vis X.env.scope x := by first | exact Or.inl rfl | exact Or.inr (Or.inl rfl) | exact Or.inr (Or.inr rfl)) (hd : (x == ("__debug__" : Str)) = false := by decide)
    (hcd : (x == ("__classdict__" : Str)) = false := by decide) (hs : swapsWith e (some (.Attribute (.Name x px) f pos')) pos.line X.env = pure false := by rfl) :
    SS c X W (.Assign [.Attribute (.Name x px) f pos'] e pos) (fun ρ => bd (me ρ) fun v => selfM k i ρ v) := by
  refine ⟨h.k, PS.imp (SlX.ps_sl (pe_var hN hv hd hcd) h.p hs) fun D σ H ⟨B, Ψ, ρ, S, F, g, q⟩ => ⟨Ψ, ρ, S, F, g.so, g.eo, (q.bd.ext g.x).mono fun v S1 q1 Ψ1 y H1 x1 s1 r1 => ?_⟩⟩
  have g1 := g.ext x1 s1
  unfold selfM at q1
  split at q1
  · rename_i k' fs hs0
    split at q1
    · rename_i ek _
      split at q1
      · rename_i hi
        subst ek
        obtain ⟨a', dx, vs, hF, h1, h2, h3, h4, h5, h6⟩ := g1.eo.slot 0 _ hs0
        refine ⟨.ref a', h1, a', _, dx, ad, vs, i, rfl, h2, h.k ▸ C, h.k ▸ t, ?_⟩
        have ha : a' ∈ F 0 := by rw [hF]; simp
        have hdx : dx ∈ F 0 := by rw [hF]; simp
        have hl : 0 < ρ.length := (List.getElem?_eq_some_iff.mp hs0).1
        -- first the own dict
        have g2 : Gd c B Ψ1 σ (ρ.set 0 (.ownI k' fs)) (L2.upd H1 dx (.xd [])) F S1 := by
          refine g1.upd hs0 hdx ⟨a', dx, vs, hF, h1, ?_, (by rw [upd_same]; exact fun z => nomatch z), h4, h5, h6⟩ fun _ _ _ => ⟨_, _, rfl⟩
          rcases h2 with ⟨z1, z2⟩ | ⟨z1, z2⟩
          · exact .inl ⟨by rw [upd_ne (Ne.symm h4)]; exact z1, z2⟩
          · exact .inr ⟨by rw [upd_ne (Ne.symm h4)]; exact z1, upd_same⟩
        have hs2 : (ρ.set 0 (.ownI k' fs))[0]? = some (.ownI k' fs) := List.getElem?_set_self hl
        have hlen : (SlX.putS i y vs).length ≤ (fs.set i (some v)).length := by
          unfold SlX.putS
          rw [List.length_set, List.length_append, List.length_replicate, List.length_set]
          omega
        have ro : RepsO c Ψ1 (SlX.putS i y vs) (fs.set i (some v)) := fun j d hj => by
          by_cases z : j = i
          · subst z
            rw [List.getElem?_set_self hi] at hj
            cases hj
            exact ⟨y, SlX.putS_get _ _ _, r1⟩
          · rw [List.getElem?_set_ne (Ne.symm z)] at hj
            obtain ⟨v', e1, e2⟩ := h6 j d hj
            exact ⟨v', (SlX.putS_ne z).mpr e1, e2⟩
        have g3 := g2.upd (s' := .ownI k' (fs.set i (some v))) (o := SlX.SlO a' (c.cls k') dx (SlX.putS i y vs)) hs2 ha ⟨a', dx, SlX.putS i y vs, hF, h1, .inr ⟨upd_same, by rw [upd_ne h4, upd_same]⟩, (by rw [upd_ne h4, upd_same]; exact fun z => nomatch z), h4, hlen, ro⟩ fun _ _ _ => ⟨_, _, rfl⟩
        rw [List.set_set] at g3
        exact q1 Ψ1 σ _ F g3
      · exact q1.elim
    · exact q1.elim
  · exact q1.elim
end

/-! ### the law's own def -/
def spLaw (c : Cf) (m : List D → M D) : Sp := fun vs H Q _ => ∃ (a : Addr) (ns : List Int), vs = [.ref a] ∧ SqL c.K H a (ns.map V.int) ∧ ns.length ≤ 63 ∧ ∀ H', Q (.bl true) H'
end Sm

/-! text: Sim17 -/
set_option Elab.async false
set_option linter.all false
set_option maxRecDepth 100000
set_option maxHeartbeats 1000000
namespace Sm
open PySem PySem.Spec PyProof.Rows L2
open AutoSeq1 (wpAny_loadPart')
theorem tuple_mul1 (l : Addr) (items : Array Value) (n : Nat) (dd : Option Addr) (sl : Array (Option Value)) (u : Tok) :
    Meets (Builtin.«tuple.__mul__» ⟨[.ref l, .int 1 u], []⟩) (fun _ R s => s.heap.get? l = some { cls := .type "tuple", dict := dd, data := .seq items n, slots := sl } ∧ R (.ok (.ret (Value.ref l))) s) :=
  .of_wp fun prog w A R s h => by
    obtain ⟨hp, g, d, tk, os⟩ := s
    obtain ⟨hl, h⟩ := h
    have f1 := AutoSeq1.idx_int
    have c1 : (items.isEmpty || (1 : Int) == 1) = true := by rw [Bool.or_eq_true]; exact .inr rfl
    wp_walk using wpAny_loadPart' hl
    exact ⟨_, rfl, h⟩
def rRepT1 (K : PySem.W.Frag) : R2 := fun x y H Q => ∃ l xs, x = .ref l ∧ y = .int 1 ∧ SqT K H l xs ∧ Q (.ref l) H
theorem op_repT1 {X : Cx} : OpR X (binaryOp .Mult) (rRepT1 X.K) := by
  intro pins s σ H x y v u Q I rx ry h
  obtain ⟨l, xs, rfl, rfl, hT, q⟩ := h
  cases rx
  obtain ⟨t, rfl⟩ := ry
  obtain ⟨its, r, ⟨⟨cls, dd, data, sl⟩, ho, hc, n, hd⟩, hs⟩ := I.tuple hT
  simp only at hc hd
  subst hc hd
  exact wpAny_binaryOp_repeat_ref (T := "tuple") (U := "int") (by decide) ⟨_, ho, rfl⟩ (fun s' => typeIs_int s' 1 t) noFill_tuple_mul F.fills_int_mul F.slot_int_rmul repeat_tuple F.slot_int_index.lookup
    (call_meets F.slot_int_rmul (typeIs_int s 1 t) F.entry_int_rmul (F.args_int_rmul_2 _ _) (int_rmul_tuple 1 t l its.toArray n dd sl)
      ⟨ho, rfl, ⟨_, ho, rfl⟩, call_meets F.slot_tuple_mul ⟨_, ho, rfl⟩ F.entry_tuple_mul (F.args_tuple_mul_2 _ _) (tuple_mul1 l its.toArray n dd sl t) ⟨ho, ⟨.ref l, H, I, rfl, q⟩⟩⟩)
def mulT1 : D → D → Sto → Option D := fun a b _ => match a, b with
  | .tup ds, .int 1 => some (.tup ds)
  | _, _ => none
theorem v2_mulT1 {c : Cf} : V2 c (rRepT1 c.K) mulT1 := by
  intro Ψ H S x y a b d Q s ra rb e q
  unfold mulT1 at e
  split at e
  · cases e
    obtain ⟨a1, vs, rfl, h1, _, r1⟩ := ra.tup s
    cases rb.int
    exact ⟨a1, vs, rfl, rfl, h1, fin0 s q (ra.rep fun _ z => by cases z)⟩
  · cases e
/-! tuple * 0 -/
theorem tuple_mul0 (l : Addr) (items : Array Value) (n : Nat) (dd : Option Addr) (sl : Array (Option Value)) (u : Tok) (c1 : (items.isEmpty || (0 : Int) == 1) = false) :
    Meets (Builtin.«tuple.__mul__» ⟨[.ref l, .int 0 u], []⟩) (fun _ R s => s.heap.get? l = some { cls := .type "tuple", dict := dd, data := .seq items n, slots := sl } ∧
      R (.ok (.ret (Value.ref s.heap.objs.size))) { s with heap := s.heap.push { cls := Value.type "tuple", data := Data.seq #[] }, toks := s.toks }) :=
  .of_wp fun prog w A R s h => by
    obtain ⟨hp, g, d, tk, os⟩ := s
    obtain ⟨hl, h⟩ := h
    have f1 := AutoSeq1.idx_int
    wp_walk using wpAny_loadPart' hl
    repeat (first
      | (refine wpAny_ite_false (decide_eq_false (by rw [c1]; exact Bool.false_ne_true)) ?_; wp_walk using wpAny_loadPart' hl))
    exact ⟨_, rfl, h⟩
def rRepT0 (K : PySem.W.Frag) : R2 := fun x y H Q => ∃ l xs, x = .ref l ∧ y = .int 0 ∧ SqT K H l xs ∧ xs ≠ [] ∧ ∀ p, H p = none → Q (.ref p) (upd H p (.tup []))
theorem op_repT0 {X : Cx} : OpR X (binaryOp .Mult) (rRepT0 X.K) := by
  intro pins s σ H x y v u Q I rx ry h
  obtain ⟨l, xs, rfl, rfl, hT, hne, q⟩ := h
  cases rx
  obtain ⟨t, rfl⟩ := ry
  obtain ⟨its, r, ⟨⟨cls, dd, data, sl⟩, ho, hc, n, hd⟩, hs⟩ := I.tuple hT
  simp only at hc hd
  subst hc hd
  have hle : its.length = xs.length := r.length.symm
  have hi : its.toArray.isEmpty = false := by
    cases its with
    | nil => exact absurd (List.eq_nil_of_length_eq_zero (l := xs) hle.symm) hne
    | cons a b => rfl
  have c1 : (its.toArray.isEmpty || (0 : Int) == 1) = false := by rw [hi]; rfl
  exact wpAny_binaryOp_repeat_ref (T := "tuple") (U := "int") (by decide) ⟨_, ho, rfl⟩ (fun s' => typeIs_int s' 0 t) noFill_tuple_mul F.fills_int_mul F.slot_int_rmul repeat_tuple F.slot_int_index.lookup
    (call_meets F.slot_int_rmul (typeIs_int s 0 t) F.entry_int_rmul (F.args_int_rmul_2 _ _) (int_rmul_tuple 0 t l its.toArray n dd sl)
      ⟨ho, rfl, ⟨_, ho, rfl⟩, call_meets F.slot_tuple_mul ⟨_, ho, rfl⟩ F.entry_tuple_mul (F.args_tuple_mul_2 _ _) (tuple_mul0 l its.toArray n dd sl t c1) ⟨ho, ⟨.ref s.heap.objs.size, _, I.laid (t' := s.toks) (o := .tup []) (fun b ob q => Heap.get?_push_of_some _ q) (Nat.le_refl _) ⟨by simp [sizeLine_eq], _, .nil, IsTup.new _ _⟩, rfl, q _ (I.hok.fresh (Nat.le_refl _))⟩⟩⟩)
def mulT0 : D → D → Sto → Option D := fun a b _ => match a, b with
  | .tup i, .int 0 => if isNil i then none else some (.tup [])
  | _, _ => none
theorem v2_mulT0 {c : Cf} : V2 c (rRepT0 c.K) mulT0 := by
  intro Ψ H S x y a b d Q s ra rb e q
  unfold mulT0 at e
  split at e
  · split at e
    · cases e
    · rename_i h
      cases e
      obtain ⟨a1, vs, rfl, h1, _, r1⟩ := ra.tup s
      cases rb.int
      refine ⟨a1, vs, rfl, rfl, h1, fun z => ?_, fun p hp => finT s q (by simp) .nil hp⟩
      have z' := r1.nil_iff.mp z
      subst z'
      exact absurd rfl h
  · cases e

/-! ### the rules by one word each -/
def o2 (f : D → D → Sto → Option D) (a b : M D) : M D := bd a fun x => bd b fun y => op2 f x y
def o2N (f : D → D → Sto → Option (List D)) (a b : M D) : M (List D) := bd a fun x => bd b fun y => op2N f x y
def orD (f g : D → D → Sto → Option D) : D → D → Sto → Option D := fun a b S => match f a b S with
  | some d => some d
  | none => g a b S
def addA : D → D → Sto → Option D := orD addI (orD addS addT)
def mulA : D → D → Sto → Option D := orD mulI (orD mulT1 (orD mulT mulT0))
section
variable {c : Cf} {X : Cx} {W : L2.St → XK} {a b e : Expr} {es : List Expr} {pos p : Pos} {ma mb mc : Env → M D} {ms : Env → M (List D)}
theorem se_add (ha : SB c X W a ma) (hb : SB c X W b mb) : SE c X W (.BinOp a .Add b pos) (fun ρ => o2 addA (ma ρ) (mb ρ)) := se_op (op_add.or (op_add_str.or op_catA)) (V2.or v2_addI (V2.or v2_addS (ha.k ▸ v2_addT))) ha hb
theorem sn_add (ha : SB c X W a ma) (hb : SB c X W b mb) : SN c X W (.BinOp a .Add b pos) (fun ρ => o2N addL (ma ρ) (mb ρ)) := sn_op op_cat v2_addL ha hb
theorem se_sub (ha : SB c X W a ma) (hb : SB c X W b mb) : SE c X W (.BinOp a .Sub b pos) (fun ρ => o2 subI (ma ρ) (mb ρ)) := se_op op_sub v2_subI ha hb
theorem se_mul (ha : SB c X W a ma) (hb : SB c X W b mb) : SE c X W (.BinOp a .Mult b pos) (fun ρ => o2 mulA (ma ρ) (mb ρ)) := se_op (op_mul.or (op_repT1.or (op_repT.or op_repT0))) (V2.or v2_mulI (V2.or (ha.k ▸ v2_mulT1) (V2.or (ha.k ▸ v2_mulT) (ha.k ▸ v2_mulT0)))) ha hb
theorem sn_mul (ha : SB c X W a ma) (hb : SB c X W b mb) : SN c X W (.BinOp a .Mult b pos) (fun ρ => o2N mulL (ma ρ) (mb ρ)) := sn_op op_rep v2_mulL ha hb
theorem se_div (ha : SB c X W a ma) (hb : SB c X W b mb) : SE c X W (.BinOp a .FloorDiv b pos) (fun ρ => o2 divI (ma ρ) (mb ρ)) := se_op op_fdivW v2_divI ha hb
theorem se_mod (ha : SB c X W a ma) (hb : SB c X W b mb) : SE c X W (.BinOp a .Mod b pos) (fun ρ => o2 modI (ma ρ) (mb ρ)) := se_op op_mod v2_modI ha hb
theorem se_pow (ha : SB c X W a ma) (hb : SB c X W b mb) : SE c X W (.BinOp a .Pow b pos) (fun ρ => o2 powI (ma ρ) (mb ρ)) := se_op op_pow v2_powI ha hb
theorem se_eq (hu : X.A.units + 64 < cLine) (ha : SB c X W a ma) (hb : SB c X W b mb) : SE c X W (.Compare a [.Eq] [b] pos) (fun ρ => o2 eqD (ma ρ) (mb ρ)) := se_cmp (op_eqP hu) (ha.k ▸ v2_eqD) ha hb
theorem se_ne (hu : X.A.units + 64 < cLine) (ha : SB c X W a ma) (hb : SB c X W b mb) : SE c X W (.Compare a [.NotEq] [b] pos) (fun ρ => o2 neD (ma ρ) (mb ρ)) := se_cmp (op_neP hu) (ha.k ▸ v2_neD) ha hb
theorem se_lt (ha : SB c X W a ma) (hb : SB c X W b mb) : SE c X W (.Compare a [.Lt] [b] pos) (fun ρ => o2 ltI (ma ρ) (mb ρ)) := se_cmp op_lt v2_ltI ha hb
theorem se_le (ha : SB c X W a ma) (hb : SB c X W b mb) : SE c X W (.Compare a [.LtE] [b] pos) (fun ρ => o2 leI (ma ρ) (mb ρ)) := se_cmp op_le v2_leI ha hb
theorem se_gt (ha : SB c X W a ma) (hb : SB c X W b mb) : SE c X W (.Compare a [.Gt] [b] pos) (fun ρ => o2 gtI (ma ρ) (mb ρ)) := se_cmp op_gt v2_gtI ha hb
theorem se_ge (ha : SB c X W a ma) (hb : SB c X W b mb) : SE c X W (.Compare a [.GtE] [b] pos) (fun ρ => o2 geI (ma ρ) (mb ρ)) := se_cmp op_ge v2_geI ha hb
theorem se_in (hu : X.A.units + 64 < cLine) (ha : SB c X W a ma) (hb : SB c X W b mb) (hm : behindInMarks .In b = false := by first | rfl | with_unfolding_all rfl) : SE c X W (.Compare a [.In] [b] pos) (fun ρ => o2 (inD false) (ma ρ) (mb ρ)) := se_cmp (op_inP hu) (ha.k ▸ v2_inD) ha hb hm
theorem se_nin (hu : X.A.units + 64 < cLine) (ha : SB c X W a ma) (hb : SB c X W b mb) (hm : behindInMarks .NotIn b = false := by first | rfl | with_unfolding_all rfl) : SE c X W (.Compare a [.NotIn] [b] pos) (fun ρ => o2 (inD true) (ma ρ) (mb ρ)) := se_cmp (op_notInP hu) (ha.k ▸ v2_inD) ha hb hm
theorem st_eq (hu : X.A.units + 64 < cLine) (ha : SB c X W a ma) (hb : SB c X W b mb) : ST c X W (.Compare a [.Eq] [b] pos) (fun ρ => boolT (o2 eqD (ma ρ) (mb ρ))) := st_cmp (op_eqP hu) (ha.k ▸ v2_eqD) ha hb
theorem st_ne (hu : X.A.units + 64 < cLine) (ha : SB c X W a ma) (hb : SB c X W b mb) : ST c X W (.Compare a [.NotEq] [b] pos) (fun ρ => boolT (o2 neD (ma ρ) (mb ρ))) := st_cmp (op_neP hu) (ha.k ▸ v2_neD) ha hb
theorem st_lt (ha : SB c X W a ma) (hb : SB c X W b mb) : ST c X W (.Compare a [.Lt] [b] pos) (fun ρ => boolT (o2 ltI (ma ρ) (mb ρ))) := st_cmp op_lt v2_ltI ha hb
theorem st_le (ha : SB c X W a ma) (hb : SB c X W b mb) : ST c X W (.Compare a [.LtE] [b] pos) (fun ρ => boolT (o2 leI (ma ρ) (mb ρ))) := st_cmp op_le v2_leI ha hb
theorem st_gt (ha : SB c X W a ma) (hb : SB c X W b mb) : ST c X W (.Compare a [.Gt] [b] pos) (fun ρ => boolT (o2 gtI (ma ρ) (mb ρ))) := st_cmp op_gt v2_gtI ha hb
theorem st_ge (ha : SB c X W a ma) (hb : SB c X W b mb) : ST c X W (.Compare a [.GtE] [b] pos) (fun ρ => boolT (o2 geI (ma ρ) (mb ρ))) := st_cmp op_ge v2_geI ha hb
theorem st_in (hu : X.A.units + 64 < cLine) (ha : SB c X W a ma) (hb : SB c X W b mb) (hm : behindInMarks .In b = false := by first | rfl | with_unfolding_all rfl) : ST c X W (.Compare a [.In] [b] pos) (fun ρ => boolT (o2 (inD false) (ma ρ) (mb ρ))) := st_cmp (op_inP hu) (ha.k ▸ v2_inD) ha hb hm
theorem st_nin (hu : X.A.units + 64 < cLine) (ha : SB c X W a ma) (hb : SB c X W b mb) (hm : behindInMarks .NotIn b = false := by first | rfl | with_unfolding_all rfl) : ST c X W (.Compare a [.NotIn] [b] pos) (fun ρ => boolT (o2 (inD true) (ma ρ) (mb ρ))) := st_cmp (op_notInP hu) (ha.k ▸ v2_inD) ha hb hm
/-- chains of ints -/
theorem se_leLe {d : Expr} (ha : SB c X W a ma) (hb : SB c X W b mb) (hd : SB c X W d mc) (h1 : lastMarks [.LtE, .LtE] [b, d] = false := by with_unfolding_all rfl) : SE c X W (.Compare a [.LtE, .LtE] [b, d] pos) (fun ρ => chainM leI leI (ma ρ) (mb ρ) (mc ρ)) := se_chain op_le op_le v2_leI v2_leI ha hb hd h1
theorem se_leLt {d : Expr} (ha : SB c X W a ma) (hb : SB c X W b mb) (hd : SB c X W d mc) (h1 : lastMarks [.LtE, .Lt] [b, d] = false := by with_unfolding_all rfl) : SE c X W (.Compare a [.LtE, .Lt] [b, d] pos) (fun ρ => chainM leI ltI (ma ρ) (mb ρ) (mc ρ)) := se_chain op_le op_lt v2_leI v2_ltI ha hb hd h1
/-- built-ins -/
def c1 (f : List D → Sto → Option D) (m : M (List D)) : M D := bd m fun ds => opC f ds
def c1N (f : List D → Sto → Option (List D)) (m : M (List D)) : M (List D) := bd m fun ds => opCN f ds
theorem se_len (ha : SAB c X W (e :: es) ms) (hm : X.mg "len" = none) (hg : Gl X "len" := by rfl) (he : starEach (e :: es) X.env = (false, eval e X.env) :: starEach es X.env := by rfl) (hpl : (backTo pos (starEach es X.env)).any (·.1) = false := by rfl) :
    SE c X W (.Call (.Name "len" p) (e :: es) [] pos) (fun ρ => c1 lenD (ms ρ)) := se_callB call_lenA (ha.k ▸ vc_len) ha hm boot_len hg (by decide) (by decide) he hpl
theorem se_all (ha : SAB c X W (e :: es) ms) (hm : X.mg "all" = none) (hg : Gl X "all" := by rfl) (hc : X.calm = true := by rfl) (he : starEach (e :: es) X.env = (false, eval e X.env) :: starEach es X.env := by rfl) (hpl : (backTo pos (starEach es X.env)).any (·.1) = false := by rfl) :
    SE c X W (.Call (.Name "all" p) (e :: es) [] pos) (fun ρ => c1 allD (ms ρ)) := se_callB (cr_all hc) (ha.k ▸ vc_all) ha hm boot_all hg (by decide) (by decide) he hpl
theorem se_any (ha : SAB c X W (e :: es) ms) (hm : X.mg "any" = none) (hg : Gl X "any" := by rfl) (hc : X.calm = true := by rfl) (he : starEach (e :: es) X.env = (false, eval e X.env) :: starEach es X.env := by rfl) (hpl : (backTo pos (starEach es X.env)).any (·.1) = false := by rfl) :
    SE c X W (.Call (.Name "any" p) (e :: es) [] pos) (fun ρ => c1 anyD (ms ρ)) := se_callB (cr_any hc) (ha.k ▸ vc_any) ha hm boot_any hg (by decide) (by decide) he hpl
theorem se_tuple (ha : SAB c X W (e :: es) ms) (hm : X.mg "tuple" = none) (hg : Gl X "tuple" := by rfl) (he : starEach (e :: es) X.env = (false, eval e X.env) :: starEach es X.env := by rfl) (hpl : (backTo pos (starEach es X.env)).any (·.1) = false := by rfl) :
    SE c X W (.Call (.Name "tuple" p) (e :: es) [] pos) (fun ρ => c1 tupleD (ms ρ)) := se_callTy call_tuple_of (ha.k ▸ vc_tuple) ha hm boot_tuple hg (by decide) (by decide) he hpl
theorem sn_list (ha : SAB c X W (e :: es) ms) (hm : X.mg "list" = none) (hg : Gl X "list" := by rfl) (he : starEach (e :: es) X.env = (false, eval e X.env) :: starEach es X.env := by rfl) (hpl : (backTo pos (starEach es X.env)).any (·.1) = false := by rfl) :
    SN c X W (.Call (.Name "list" p) (e :: es) [] pos) (fun ρ => c1N listD (ms ρ)) := sn_callTy call_list_of (ha.k ▸ vc_list) ha hm boot_list hg (by decide) (by decide) he hpl
theorem se_toInt (ha : SAB c X W (e :: es) ms) (hm : X.mg "int" = none) (hg : Gl X "int" := by rfl) (he : starEach (e :: es) X.env = (false, eval e X.env) :: starEach es X.env := by rfl) (hpl : (backTo pos (starEach es X.env)).any (·.1) = false := by rfl) :
    SE c X W (.Call (.Name "int" p) (e :: es) [] pos) (fun ρ => c1 intD (ms ρ)) := se_callTy call_int1 vc_int ha hm boot_int hg (by decide) (by decide) he hpl
theorem se_abs (ha : SAB c X W (e :: es) ms) (hm : X.mg "abs" = none) (hg : Gl X "abs" := by rfl) (he : starEach (e :: es) X.env = (false, eval e X.env) :: starEach es X.env := by rfl) (hpl : (backTo pos (starEach es X.env)).any (·.1) = false := by rfl) :
    SE c X W (.Call (.Name "abs" p) (e :: es) [] pos) (fun ρ => c1 absD (ms ρ)) := se_callB call_abs vc_abs ha hm (by decide +kernel) hg (by decide) (by decide) he hpl
theorem se_max (ha : SAB c X W (e :: es) ms) (hm : X.mg "max" = none) (hg : Gl X "max" := by rfl) (hc : X.calm = true := by rfl) (he : starEach (e :: es) X.env = (false, eval e X.env) :: starEach es X.env := by rfl) (hpl : (backTo pos (starEach es X.env)).any (·.1) = false := by rfl) :
    SE c X W (.Call (.Name "max" p) (e :: es) [] pos) (fun ρ => c1 max2D (ms ρ)) := se_callB (call_max2 hc) vc_max2 ha hm boot_max hg (by decide) (by decide) he hpl
theorem se_min (ha : SAB c X W (e :: es) ms) (hm : X.mg "min" = none) (hg : Gl X "min" := by rfl) (hc : X.calm = true := by rfl) (he : starEach (e :: es) X.env = (false, eval e X.env) :: starEach es X.env := by rfl) (hpl : (backTo pos (starEach es X.env)).any (·.1) = false := by rfl) :
    SE c X W (.Call (.Name "min" p) (e :: es) [] pos) (fun ρ => c1 min2D (ms ρ)) := se_callB (call_min2 hc) vc_min2 ha hm boot_min hg (by decide) (by decide) he hpl
theorem se_isi (ha : SAB c X W (e :: es) ms) (hm : X.mg "isinstance" = none) (hg : Gl X "isinstance" := by rfl) (he : starEach (e :: es) X.env = (false, eval e X.env) :: starEach es X.env := by rfl) (hpl : (backTo pos (starEach es X.env)).any (·.1) = false := by rfl) :
    SE c X W (.Call (.Name "isinstance" p) (e :: es) [] pos) (fun ρ => c1 isiD (ms ρ)) := se_callB call_isi (ha.k ▸ vc_isi) ha hm (by decide +kernel) hg (by decide) (by decide) he hpl
theorem se_iso {n : Nat} (C : CF c n) (ha : SAB c X W (e :: es) ms) (hm : X.mg "isinstance" = none) (hg : Gl X "isinstance" := by rfl) (he : starEach (e :: es) X.env = (false, eval e X.env) :: starEach es X.env := by rfl) (hpl : (backTo pos (starEach es X.env)).any (·.1) = false := by rfl) :
    SE c X W (.Call (.Name "isinstance" p) (e :: es) [] pos) (fun ρ => c1 (isoD n) (ms ρ)) := se_callB call_iso (ha.k ▸ vc_iso C) ha hm (by decide +kernel) hg (by decide) (by decide) he hpl
end
end Sm

/-! text: Sim18 -/
set_option Elab.async false
set_option linter.all false
set_option maxRecDepth 100000
set_option maxHeartbeats 1000000
namespace Sm
open PySem PySem.Spec PyProof.Rows L2
def negM (m : M D) : M D := bd m fun x => fun S => match x with
  | .int i => .ok (.int (-i)) S
  | _ => .stuck
section
variable {c : Cf} {X : Cx} {W : L2.St → XK} {a b d e : Expr} {es : List Expr} {pos p : Pos} {ma mb mc : Env → M D}
theorem se_neg (h : SE c X W a ma) : SE c X W (.UnaryOp .USub a pos) (fun ρ => negM (ma ρ)) := by
  refine ⟨h.k, PE.imp (pe_un un_neg h.p) fun σ H Q ⟨Ψ, ρ, S, F, so, eo, q⟩ => ⟨Ψ, ρ, S, F, so, eo, q.bd.mono fun x S1 q1 Ψ1 v H1 x1 s1 r1 => ?_⟩⟩
  split at q1
  · cases r1
    exact ⟨_, rfl, q1 Ψ1 _ H1 x1 s1 (.int _)⟩
  · exact q1.elim
theorem st_chain {op op' : CmpOp} {r r' : R2} {f g : D → D → Sto → Option D} (ho : OpR X (compareOp op) r) (ho' : OpR X (compareOp op') r') (hr : V2 c r f) (hr' : V2 c r' g) (ha : SB c X W a ma) (hb : SB c X W b mb) (hd : SB c X W d mc)
    (h1 : lastMarks [op, op'] [b, d] = false := by with_unfolding_all rfl) : ST c X W (.Compare a [op, op'] [b, d] pos) (fun ρ => boolT (chainM f g (ma ρ) (mb ρ) (mc ρ))) := by
  refine ⟨ha.k, PT.imp (pt_chain ho ho' ha.p hb.p hd.p h1) fun σ H Q ⟨Ψ, ρ, S, F, so, eo, q⟩ => ?_⟩
  refine chain_r hr hr' ⟨Ψ, ρ, S, F, so, eo, q.bd.mono fun x S1 q1 Ψ1 v H1 x1 s1 r1 => ?_⟩
  unfold asB at q1
  split at q1
  · cases r1
    exact ⟨_, rfl, q1 Ψ1 H1 x1 s1⟩
  · exact q1.elim
theorem st_leLe (ha : SB c X W a ma) (hb : SB c X W b mb) (hd : SB c X W d mc) (h1 : lastMarks [.LtE, .LtE] [b, d] = false := by with_unfolding_all rfl) : ST c X W (.Compare a [.LtE, .LtE] [b, d] pos) (fun ρ => boolT (chainM leI leI (ma ρ) (mb ρ) (mc ρ))) := st_chain op_le op_le v2_leI v2_leI ha hb hd h1
theorem st_leLt (ha : SB c X W a ma) (hb : SB c X W b mb) (hd : SB c X W d mc) (h1 : lastMarks [.LtE, .Lt] [b, d] = false := by with_unfolding_all rfl) : ST c X W (.Compare a [.LtE, .Lt] [b, d] pos) (fun ρ => boolT (chainM leI ltI (ma ρ) (mb ρ) (mc ρ))) := st_chain op_le op_lt v2_leI v2_ltI ha hb hd h1
/-- x = [.. for .. in ..] on one line -/
theorem ss_setLc {W : XK} {mi : Env → M (List D)} {mt : Env → M Bool} {me : Env → M D} {t : Tg} {elt tg iter : Expr} {ifs : List Expr} {scope : Scope} {own : List (Str × Nat)} {py spos : Pos} {i : Nat} {y : Str} (hi : SIC c X (cW W) tg iter mi) (hN : X.N.Nodup) (ok : BlkOk X.N X.env.scope scope own) (hv : ∀ i ∈ t.is, i ∈ own.map (·.2))
    (hg : ∀ (s : Shared) (H : Hp) (C : Addr) (cl : List (Str × Addr)) (fp : List Addr), SG (X.blk s H scope (compEnvC scope cl C X.env) fp) tg t) (ht : ∀ (s : Shared) (H : Hp) (C : Addr) (cl : List (Str × Addr)) (fp : List Addr), STs c (X.blk s H scope (compEnvC scope cl C X.env) fp) WF ifs mt)
    (he : ∀ (s : Shared) (H : Hp) (C : Addr) (cl : List (Str × Addr)) (fp : List Addr), SE c (X.blk s H scope (compEnvC scope cl C X.env) fp) WF elt me) (hy : X.N[i]? = some y := by rfl) (hyl : X.env.scope.names.lookup y = some .local := by rfl)
    (hk : X.env.scope.kind = .function := by rfl) (hl : (py.line == pos.line) = true := by rfl) (ha : (scope.names.any fun (n, k) => n == y && (k == .local || k == .cell)) = false := by rfl)
    (hc : X.calm = true := by rfl) (hs : ∀ x, foldedSetIterable iter X.env x = pure x := by intro _; rfl) :
    SS c X W (.Assign [.Name y py] (.ListComp elt [⟨tg, iter, ifs, 0⟩] scope pos) spos) (fun ρ => bd (bd (mi ρ) fun ds => noX (lcM (fun d => bindD t d (wipeE ρ (own.map (·.2)))) mt me ds)) fun ds => rt (.nx (ρ.set i (.own ds)))) :=
  ⟨hi.k, PS.imp (ps_setLc hc hN hy hyl (sw_true hk hyl hl ha) hi.p ok (fun s H C cl fp => hi.k ▸ (hg s H C cl fp).p) (fun s H C cl fp => (ht s H C cl fp).p) (fun s H C cl fp => (he s H C cl fp).p) hs) fun D σ H ⟨B, Ψ, ρ, S, F, g, q⟩ =>
    lc_r (W := cW W) hv ⟨Ψ, ρ, S, F, g.so, g.eo, (q.bd.ext g.x).mono fun ds S1 q1 Ψ1 a vs H1 x1 s1 h1 l1 r1 p1 f1 n1 => by
      obtain ⟨F', g'⟩ := g.setN i x1 s1 h1 l1 r1 p1 f1 n1
      exact q1 Ψ1 _ H1 F' g'⟩⟩
end
/-! ### short words for the mirrors -/
def setV (i : Nat) (m : Env → M D) : Env → M Out := fun ρ => bd (m ρ) fun d => rt (.nx (ρ.set i (.val d)))
def setN (i : Nat) (m : Env → M (List D)) : Env → M Out := fun ρ => bd (m ρ) fun ds => rt (.nx (ρ.set i (.own ds)))
def appS (i : Nat) (m : Env → M D) : Env → M Out := fun ρ => bd (ownAt ρ i) fun ds => bd (m ρ) fun d => fun S => if ds.length < LIM then .ok (.nx (ρ.set i (.own (ds ++ [d])))) S else .stuck
def insS (i : Nat) (m : Env → M (List D)) : Env → M Out := fun ρ => bd (ownAt ρ i) fun ds => bd (m ρ) fun as => fun S => match as with
  | [.int k, d] => if ds.length < LIM ∧ 0 ≤ k ∧ k < 100000 then .ok (.nx (ρ.set i (.own (ds.take k.toNat ++ [d] ++ ds.drop k.toNat)))) S else .stuck
  | _ => .stuck
def parS (is : List Nat) (n : Nat) (m : Env → M (List Slot)) : Env → M Out := fun ρ => bd (m ρ) fun ss => fun S => if ss.length = n then .ok (.nx (setsM ρ is ss)) S else .stuck
def asgT (t : Tg) (m : Env → M D) : Env → M Out := fun ρ => bd (m ρ) fun d => match bindD t d ρ with
  | some ρ' => rt (.nx ρ')
  | none => stk
def setDct (i : Nat) (m : Env → M D) : Env → M Out := fun ρ => bd (m ρ) fun d => fun S => match d with
  | .lst ds => match pairsL ds with
    | some ks => .ok (.nx (ρ.set i (.ownD (mergeL [] ks)))) S
    | none => .stuck
  | _ => .stuck
def dsetS (i : Nat) (m mk : Env → M D) : Env → M Out := fun ρ => bd (m ρ) fun v => bd (dctAt ρ i) fun ks => bd (mk ρ) fun k => fun S => match keyD k with
  | some kk => if ks.length < LIM then .ok (.nx (ρ.set i (.ownD (putL ks kk v)))) S else .stuck
  | none => .stuck
def setIx (i : Nat) (m mk : Env → M D) : Env → M Out := fun ρ => bd (m ρ) fun v => bd (opt (match ρ[i]? with
  | some (.val (.ref n)) => some ()
  | some (.own ds) => some ()
  | _ => none)) fun _ => bd (mk ρ) fun k => match k with
  | .int k => setAt ρ i k v
  | _ => stk
def dixM (ρ : Env) (i : Nat) (m : M D) : M D := bd (dctAt ρ i) fun ks => bd m fun k => opt ((keyD k).bind (getL ks))
def kdM (vs : List (Str × D)) (m : M D) : M D := bd m fun y => fun S => match y with
  | .str z => match lkS vs z with
    | some d => .ok d S
    | none => .stuck
  | _ => .stuck
def inKDM (vs : List (Str × D)) (m : M D) : M D := bd m fun y => fun S => match y with
  | .str z => .ok (.bl (lkS vs z).isSome) S
  | _ => .stuck
def kidxM (ys : List Str) (m : M D) : M D := bd m fun y => fun S => match y with
  | .str z => match idxS ys z with
    | some j => .ok (.int (j : Nat)) S
    | none => .stuck
  | _ => .stuck
def idxM (o m : M D) : M D := bd o fun d => bd (asL d) fun ds => bd m fun y => opt (idxD (.lst ds) y)
def inRngM (a b : M D) : M Bool := bd a fun x => bd b fun y => fun S => match x, y with
  | .int i, .int j => .ok (decide (0 ≤ i ∧ i < j)) S
  | _, _ => .stuck
def listRgM (a : M D) : M (List D) := bd a fun y => fun S => match y with
  | .int j => if 0 ≤ j ∧ j ≤ 100000 then .ok (rng 0 j.toNat) S else .stuck
  | _ => .stuck
def range1M (m : M (List D)) : M (List D) := bd m fun ds => fun S => match ds with
  | [.int j] => if inI j = true then .ok (rng 0 j.toNat) S else .stuck
  | _ => .stuck
def range2M (m : M (List D)) : M (List D) := bd m fun ds => fun S => match ds with
  | [.int i, .int j] => if (inI i && inI j) = true then .ok (rng i (j - i).toNat) S else .stuck
  | _ => .stuck
def range3M (m : M (List D)) : M (List D) := bd m fun ds => fun S => match ds with
  | [.int i, .int j, .int k] => if rgCB i j k (Builtin.Range.rangeSize i j k).toNat = true then .ok (rngC i k (Builtin.Range.rangeSize i j k).toNat) S else .stuck
  | _ => .stuck
def ownM (d : D) : M (List D) := fun S => match d with
  | .lst ds => .ok ds S
  | _ => .stuck
section
variable {c : Cf} {X : Cx} {W : XK} {pos pos' apos cpos : Pos} {i j l : Nat} {x y z : Str} {a b d e : Expr}
theorem ss_parS {ma : Env → M (List Slot)} {px py pt : Pos} {kt k2 pt2} (ha : SAM c X (cW W) [a, b] ma) (hN : X.N.Nodup) (hi : X.N[i]? = some x := by rfl) (hj : X.N[j]? = some y := by rfl) (hij : i ≠ j := by decide)
    (hx : X.env.scope.names.lookup x = some .local := by rfl) (hy : X.env.scope.names.lookup y = some .local := by rfl)
    (hw : swappedStores [.Tuple [.Name x px, .Name y py] kt pt] (.Tuple [a, b] k2 pt2) X.env = pure (some [x, y]) := by rfl)
    (hs : swapsWithSole [.Tuple [.Name x px, .Name y py] kt pt] (.Tuple [a, b] k2 pt2) pos.line X.env = pure false := by rfl) (hc : X.calm = true := by rfl) :
    SS c X W (.Assign [.Tuple [.Name x px, .Name y py] kt pt] (.Tuple [a, b] k2 pt2) pos) (parS [i, j] 2 ma) := ss_par ha hN hi hj hij hx hy hw hs hc
theorem ss_parS3 {ma : Env → M (List Slot)} {px py pz pt : Pos} {kt k2 pt2} (ha : SAM c X (cW W) [a, b, d] ma) (hN : X.N.Nodup) (hi : X.N[i]? = some x := by rfl) (hj : X.N[j]? = some y := by rfl) (hl : X.N[l]? = some z := by rfl) (hij : i ≠ j := by decide) (hil : i ≠ l := by decide) (hjl : j ≠ l := by decide)
    (hx : X.env.scope.names.lookup x = some .local := by rfl) (hy : X.env.scope.names.lookup y = some .local := by rfl) (hz : X.env.scope.names.lookup z = some .local := by rfl)
    (hw : swappedStores [.Tuple [.Name x px, .Name y py, .Name z pz] kt pt] (.Tuple [a, b, d] k2 pt2) X.env = pure (some [x, y, z]) := by rfl)
    (hs : swapsWithSole [.Tuple [.Name x px, .Name y py, .Name z pz] kt pt] (.Tuple [a, b, d] k2 pt2) pos.line X.env = pure false := by rfl) (hc : X.calm = true := by rfl) :
    SS c X W (.Assign [.Tuple [.Name x px, .Name y py, .Name z pz] kt pt] (.Tuple [a, b, d] k2 pt2) pos) (parS [i, j, l] 3 ma) := ss_par3 ha hN hi hj hl hij hil hjl hx hy hz hw hs hc
end
end Sm

/-! text: Sim22 -/
set_option Elab.async false
set_option linter.all false
set_option maxRecDepth 100000
set_option maxHeartbeats 2000000
namespace HT
open PySem PySem.Spec PyProof.Rows
section
variable {prog : Program} {w : World} {A : Around} {E : Value → Shared → Prop} {s : Shared}
theorem adjust_rev (n : Nat) : Builtin.Slice.sliceAdjust none none (-1) (n : Int) = ((n : Int) - 1, -1) := by
  unfold Builtin.Slice.sliceAdjust
  rfl
theorem places_rev (n : Nat) : Builtin.Slice.slicePlaces ((n : Int) - 1) (-1) (-1) = n := by
  unfold Builtin.Slice.slicePlaces
  have h1 : ¬ (-1 : Int) > 0 := by omega
  rw [if_neg h1]
  by_cases h : (n : Int) - 1 > -1
  · rw [if_pos h]
    have e : ((n : Int) - 1 - -1 - 1) / (- -1) + 1 = (n : Int) := by
      rw [show (- -1 : Int) = 1 by decide, Int.ediv_one]
      omega
    rw [e]
    simp
  · rw [if_neg h]
    omega
theorem sliceApplied_rev {sl : Addr} {vs : Value} {n : Nat} {Q : Int × Int × Nat → Shared → Prop} (hs : s.heap.IsSliceOf sl .none .none vs) (ps : IsPart vs (some (-1)))
    (h : Q ((n : Int) - 1, -1, n) s) : wpAny (model prog w) A (Builtin.Slice.sliceApplied (.ref sl) (pure (n : Int))) Q E s := by
  obtain ⟨os, hos, hcs, hds⟩ := id hs
  unfold Builtin.Slice.sliceApplied Builtin.Slice.sliceFields
  refine wpAny_bind (wpAny_bind (wpAny_field hos hds (x := .none) rfl (wpAny_bind (wpAny_field hos hds (x := .none) rfl (wpAny_bind (wpAny_field hos hds (x := vs) rfl (wpAny_pure ?_)))))))
  refine wpAny_bind (slicePart_ ps ?_)
  show wpAny _ _ (if ((-1 : Int) == 0) = true then _ else _) _ _ s
  rw [if_neg (by decide)]
  refine wpAny_bind (slicePart_none (wpAny_bind (slicePart_none (wpAny_bind (wpAny_pure ?_)))))
  show wpAny _ _ (match Builtin.Slice.sliceAdjust none none (-1) (n : Int) with | (lo, hi) => pure (lo, (-1 : Int), Builtin.Slice.slicePlaces lo hi (-1))) _ _ s
  rw [adjust_rev n]
  show wpAny _ _ (pure ((n : Int) - 1, (-1 : Int), Builtin.Slice.slicePlaces ((n : Int) - 1) (-1) (-1))) _ _ s
  rw [places_rev]
  exact wpAny_pure h
theorem fm_congr {α β : Type} {f g : α → Option β} : ∀ {l : List α}, (∀ x ∈ l, f x = g x) → l.filterMap f = l.filterMap g
  | [], _ => rfl
  | a :: l, h => by
    rw [List.filterMap_cons, List.filterMap_cons, h a List.mem_cons_self, fm_congr fun x hx => h x (List.mem_cons_of_mem _ hx)]
theorem pick_rev (xs : Array Value) : ((List.range xs.size).filterMap fun (m : Nat) => xs[(((xs.size : Int) - 1) + (m : Int) * (-1)).toNat]?).toArray = xs.toList.reverse.toArray := by
  have e : (List.range xs.size).filterMap (fun (m : Nat) => xs[(((xs.size : Int) - 1) + (m : Int) * (-1)).toNat]?) = ((List.range xs.size).map (fun k => xs.size - 1 - k)).filterMap (xs[·]?) := by
    rw [List.filterMap_map]
    apply fm_congr
    intro k hk
    have := List.mem_range.mp hk
    show xs[(((xs.size : Int) - 1) + (k : Int) * (-1)).toNat]? = xs[xs.size - 1 - k]?
    congr 1
    omega
  rw [e, PySem.W.krv_range, List.filterMap_reverse, PySem.W.krv_all]
theorem getItem_tuple_rev {t sl : Addr} {items : Array Value} {vs : Value} {Q : Value → Shared → Prop} (ht : IsTup s.heap t items) (hs : s.heap.IsSliceOf sl .none .none vs) (ps : IsPart vs (some (-1)))
    (h : Q (.ref s.heap.objs.size) { s with heap := s.heap.push { cls := .type "tuple", data := .seq items.toList.reverse.toArray } })
    (hsz : items.size ≤ sizeLine) : wpAny (model prog w) A (getItem (.ref t) (.ref sl)) Q E s := by
  have htake : sizeOk (.seq items.toList.reverse.toArray) := by
    show items.toList.reverse.toArray.size ≤ sizeLine
    rw [List.size_toArray, List.length_reverse, Array.length_toList]
    exact hsz
  obtain ⟨os, hos, hcs, hds⟩ := id hs
  have hTs : s.TypeIs (.ref sl) "slice" := ⟨os, hos, hcs⟩
  unfold getItem
  try with_reducible refine wpAny_holding ?_
  first | refine wpAny_bind (wpAny_pure ?_) | skip
  refine wpAny_bind (wpAny_sequenceKey ht.typeIs (by decide) ?_)
  refine wpAny_bind (wpAny_callSpecial?_slot (name := Str.ofString "__getitem__") ht.typeIs PyProof.Rows.slot_tuple_getitem
    (wpAny_call_entry PyProof.Rows.slot_tuple_getitem ht.typeIs entry_tuple_getitem ?_ (args_tuple_getitem _ _)))
  show wpAny _ _ (Builtin.Tuple.tupleItemsOf (.ref t) >>= _) _ _ s
  refine wpAny_bind (tupleItemsOf_ ht ?_)
  refine wpAny_bind (wpAny_typeOf hTs ?_)
  rw [if_pos (by decide)]
  refine wpAny_bind (sliceApplied_rev hs ps ?_)
  show wpAny _ _ (if ((((items.size : Int) - 1) == 0 && (-1 : Int) == 1 && items.size == items.size) = true) then _ else _) _ _ s
  have hno : ¬ ((((items.size : Int) - 1) == 0 && (-1 : Int) == 1 && items.size == items.size) = true) := by
    intro q
    rw [Bool.and_eq_true, Bool.and_eq_true] at q
    exact absurd q.1.2 (by decide)
  rw [if_neg hno, pick_rev]
  first
    | exact wpAny_bind (m := Builtin.Tuple.tupleExact _) (wpAny_newObj_type (wpAny_pure ⟨_, rfl, wpAny_pure h⟩) htake)
    | exact wpAny_bind (m := Builtin.Tuple.tupleExact _) (wpAny_newObj_type (wpAny_bind (wpAny_pure (wpAny_pure ⟨_, rfl, wpAny_pure h⟩))) htake)
    | exact wpAny_bind (wpAny_bind (m := Builtin.Tuple.tupleExact _) (wpAny_newObj_type (wpAny_pure (wpAny_pure ⟨_, rfl, wpAny_pure h⟩)) htake))
    | exact wpAny_bind (wpAny_bind (m := Builtin.Tuple.tupleExact _) (wpAny_newObj_type (wpAny_pure ⟨_, rfl, wpAny_pure h⟩) htake))
end
end HT

namespace L2
open PySem PySem.Spec PyProof.Rows
/-- a tuple turned about -/
def tRevT (K : PySem.W.Frag) (te : TE) : TE := fun σ H Q => te σ H fun x H1 => ∃ a xs, x = .ref a ∧ SqT K H1 a xs ∧ ∀ p, H1 p = none → Q (.ref p) (upd H1 p (.tup xs.reverse))
theorem pe_revT {X : Cx} {e : Expr} {te : TE} {k : Nat} {p1 p2 p3 pos : Pos} (he : PE X e te) : PE X (.Subscript e (.Slice none none (some (.UnaryOp .USub (.Constant (.int 1) k p1) p2)) p3) pos) (tRevT X.K te) := by
  refine ⟨fun pins s σ H Q I h => ?_⟩
  refine Subscript_ (thn (he.run pins s σ H _ I h) fun v s1 ⟨x, H1, I1, r1, q1⟩ => ?_)
  obtain ⟨a, xs, ex, hx, q⟩ := q1
  subst ex
  cases r1
  have hst : PO X (some (.UnaryOp .USub (.Constant (.int 1) k p1) p2)) (tPart (tUn (rU fun i => .int (-i)) (tC (.int 1)))) := po_some (pe_un un_neg pe_int)
  refine wpAny_Slice (thn (po_none.run pins s1 σ H1 (fun o H2 => o = none ∧ H2 = H1) I1 ⟨rfl, rfl⟩) fun vl s2 ⟨l, H2, I2, pl, el, e2⟩ => ?_)
  subst el e2
  refine thn (po_none.run pins s2 σ H2 (fun o H3 => o = none ∧ H3 = H2) I2 ⟨rfl, rfl⟩) fun vu s3 ⟨u, H3, I3, pu, eu, e3⟩ => ?_
  subst eu e3
  refine thn (hst.run pins s3 σ H3 (fun o H4 => o = some (-1) ∧ H4 = H3) I3 ⟨1, rfl, -1, rfl, rfl, rfl⟩) fun vs s4 ⟨o, H4, I4, ps, eo, e4⟩ => ?_
  subst eo e4
  cases pl
  cases pu
  have I5 : Inv X pins σ H4 { s4 with heap := s4.heap.push { cls := .type "slice", data := .fields #[.none, .none, vs] } } := I4.kept (t' := s4.toks) fun b ob q => Heap.get?_push_of_some _ q
  obtain ⟨its, r, ht, hz⟩ := I5.tuple hx
  have hlen := r.length
  show wpAny (model X.prog X.w) X.A (subscriptTail e (.Slice none none (some (.UnaryOp .USub (.Constant (.int 1) k p1) p2)) p3) (.ref a) (.ref s4.heap.objs.size)) (EP X pins σ Q) X.xe { s4 with heap := s4.heap.push { cls := .type "slice", data := .fields #[.none, .none, vs] } }
  refine tail_any (ops := [.ref a, .ref s4.heap.objs.size]) ht.typeIs (PyProof.Rows.slot_tuple_getitem.lookup) ?_ (by with_unfolding_all rfl)
  refine HT.getItem_tuple_rev ht (Heap.IsSliceOf.new _ .none .none vs) ps ?_ (by rw [List.size_toArray]; omega)
  refine ⟨.ref _, _, I5.laid (t' := s4.toks) (o := .tup xs.reverse) (fun b ob q => Heap.get?_push_of_some _ q) (Nat.le_refl _) ?_, rfl, q _ (I5.hok.fresh (Nat.le_refl _))⟩
  exact ⟨by rw [List.length_reverse]; exact hz, _, r.reverse, IsTup.new _ _⟩
theorem vals_at : ∀ {xs : List V} {us : List Value}, xs.length = us.length → (∀ (i : Nat) x u, xs[i]? = some x → us[i]? = some u → RelV x u) → Vals xs us
  | [], [], _, _ => .nil
  | [], _ :: _, h, _ => by cases h
  | _ :: _, [], h, _ => by cases h
  | x :: xs, u :: us, h, k => .cons (k 0 x u rfl rfl) (vals_at (by simpa using h) fun i x u h1 h2 => k (i + 1) x u (by simpa using h1) (by simpa using h2))
/-- list(a text) -/
theorem call_list_txt {X : Cx} (hc : X.calm = true) : CallR X (.type "list") (fun xs H Q => ∃ z : Str, xs = [.str z] ∧ z.length ≤ 100000 ∧ ∀ l, H l = none → Q (.ref l) (upd H l (.lst (z.cps.toList.map fun k => V.str ⟨#[k]⟩)))) := by
  intro pins s σ H xs us Q I r h
  obtain ⟨z, rfl, hz, q⟩ := h
  obtain ⟨u, rfl, t, rfl⟩ := vals1 r
  have hsz := sizeLine_eq
  refine call_list_str (I.ok.hd hc) z t (fun h' tk acc c' kp e hi => ?_) (by
    have : z.cps.size = z.length := rfl
    rw [this, hsz]
    omega)
  refine ⟨.ref s.heap.objs.size, _, I.laid (t' := tk) kp (Nat.le_refl _) (show ObjOk X.prog X.w _ h' _ (.lst (z.cps.toList.map fun k => V.str ⟨#[k]⟩)) from ⟨?_, acc.toList, c', ?_, e⟩), rfl, q _ (I.hok.fresh (Nat.le_refl _))⟩
  · rw [List.length_map, Array.length_toList, hsz]
    have : z.cps.size = z.length := rfl
    omega
  · refine vals_at ?_ fun i x u h1 h2 => ?_
    · rw [List.length_map, Array.length_toList, Array.length_toList, hi.1]
    · rw [List.getElem?_map] at h1
      obtain ⟨k, hk, rfl⟩ := Option.map_eq_some_iff.mp h1
      obtain ⟨k2, t2, hk2, rfl⟩ := hi.2 i u (by simpa using h2)
      rw [Array.getElem?_toList] at hk
      rw [hk] at hk2
      cases hk2
      exact ⟨t2, rfl⟩
end L2

/-! text: Sim23 -/
set_option Elab.async false
set_option linter.all false
set_option maxRecDepth 100000
set_option maxHeartbeats 2000000
namespace Sm
open PySem PySem.Spec PyProof.Rows L2
theorem VCN.or {c : Cf} {r r' : List V → Hp → VK → Prop} {f f' : List D → Sto → Option (List D)} (h : VCN c r f) (h' : VCN c r' f') : VCN c (fun x H Q => r x H Q ∨ r' x H Q) (fun a S => match f a S with | some d => some d | none => f' a S) := by
  intro Ψ H S xs ds d Q s ra e q
  dsimp only at e
  cases z : f ds S with
  | some d' =>
    rw [z] at e
    cases e
    exact .inl (h Ψ H S xs ds _ Q s ra z q)
  | none =>
    rw [z] at e
    exact .inr (h' Ψ H S xs ds _ Q s ra e q)
def listT : List D → Sto → Option (List D) := fun ds _ => match ds with
  | [.str z] => if z.length ≤ 100000 then some (z.cps.toList.map fun k => D.str ⟨#[k]⟩) else none
  | _ => none
theorem vc_listT {c : Cf} : VCN c (fun xs H Q => ∃ z : Str, xs = [.str z] ∧ z.length ≤ 100000 ∧ ∀ l, H l = none → Q (.ref l) (upd H l (.lst (z.cps.toList.map fun k => V.str ⟨#[k]⟩)))) listT := by
  intro Ψ H S xs ds d Q s r e q
  unfold listT at e
  split at e
  · split at e
    · rename_i z hz
      cases e
      obtain ⟨v, rfl, r1⟩ := r.one
      cases r1.str
      refine ⟨z, rfl, hz, fun l hl => q l _ hl ?_ ?_⟩
      · rw [List.length_map, Array.length_toList]
        exact hz
      · have key : ∀ l : List Nat, Reps c Ψ (l.map fun k => V.str ⟨#[k]⟩) (l.map fun k => D.str ⟨#[k]⟩) := fun l => by
          induction l with
          | nil => exact .nil
          | cons k l ih => exact .cons (.str _) ih
        exact key _
    · cases e
  · cases e
def listA : List D → Sto → Option (List D) := fun a S => match listD a S with
  | some d => some d
  | none => listT a S
section
variable {c : Cf} {X : Cx} {W : L2.St → XK} {a b d e : Expr} {es : List Expr} {pos p p2 p3 : Pos} {ma mb mc : Env → M D} {ms : Env → M (List D)}
theorem sn_listA (ha : SAB c X W (e :: es) ms) (hm : X.mg "list" = none) (hc : X.calm = true := by rfl) (hg : Gl X "list" := by rfl)
    (he : starEach (e :: es) X.env = (false, eval e X.env) :: starEach es X.env := by rfl) (hpl : (backTo pos (starEach es X.env)).any (·.1) = false := by rfl) :
    SN c X W (.Call (.Name "list" p) (e :: es) [] pos) (fun ρ => c1N listA (ms ρ)) := sn_callTy (CallR.or call_list_of (call_list_txt hc)) (VCN.or (ha.k ▸ vc_list) vc_listT) ha hm boot_list hg (by decide) (by decide) he hpl
/-! chains -/
theorem se_ltLt (ha : SB c X W a ma) (hb : SB c X W b mb) (hd : SB c X W d mc) (h1 : lastMarks [.Lt, .Lt] [b, d] = false := by with_unfolding_all rfl) : SE c X W (.Compare a [.Lt, .Lt] [b, d] pos) (fun ρ => chainM ltI ltI (ma ρ) (mb ρ) (mc ρ)) := se_chain op_lt op_lt v2_ltI v2_ltI ha hb hd h1
theorem st_ltLt (ha : SB c X W a ma) (hb : SB c X W b mb) (hd : SB c X W d mc) (h1 : lastMarks [.Lt, .Lt] [b, d] = false := by with_unfolding_all rfl) : ST c X W (.Compare a [.Lt, .Lt] [b, d] pos) (fun ρ => boolT (chainM ltI ltI (ma ρ) (mb ρ) (mc ρ))) := st_chain op_lt op_lt v2_ltI v2_ltI ha hb hd h1
theorem se_geGt (ha : SB c X W a ma) (hb : SB c X W b mb) (hd : SB c X W d mc) (h1 : lastMarks [.GtE, .Gt] [b, d] = false := by with_unfolding_all rfl) : SE c X W (.Compare a [.GtE, .Gt] [b, d] pos) (fun ρ => chainM geI gtI (ma ρ) (mb ρ) (mc ρ)) := se_chain op_ge op_gt v2_geI v2_gtI ha hb hd h1
theorem st_geGt (ha : SB c X W a ma) (hb : SB c X W b mb) (hd : SB c X W d mc) (h1 : lastMarks [.GtE, .Gt] [b, d] = false := by with_unfolding_all rfl) : ST c X W (.Compare a [.GtE, .Gt] [b, d] pos) (fun ρ => boolT (chainM geI gtI (ma ρ) (mb ρ) (mc ρ))) := st_chain op_ge op_gt v2_geI v2_gtI ha hb hd h1
/-! is True -/
def isB (neg : Bool) : D → D → Sto → Option D := fun a b _ => match a, b with
  | .bl x, .bl y => some (.bl (if neg then !decide (x = y) else decide (x = y)))
  | _, _ => none
theorem v2_isB {c : Cf} : V2 c rIsB (isB false) := by
  intro Ψ H S x y a b d Q s ra rb e q
  unfold isB at e
  split at e
  · cases e
    cases ra.bl; cases rb.bl
    exact ⟨_, _, rfl, rfl, fin0 s q (.bl _)⟩
  · cases e
theorem v2_notB {c : Cf} : V2 c rNotB (isB true) := by
  intro Ψ H S x y a b d Q s ra rb e q
  unfold isB at e
  split at e
  · cases e
    cases ra.bl; cases rb.bl
    exact ⟨_, _, rfl, rfl, fin0 s q (.bl _)⟩
  · cases e
theorem se_isB (ha : SB c X W a ma) (hb : SB c X W b mb) (hm : behindInMarks .Is b = false := by first | exact nomark _ (by decide) (by decide) | rfl) : SE c X W (.Compare a [.Is] [b] pos) (fun ρ => o2 (isB false) (ma ρ) (mb ρ)) := se_cmp op_isBl v2_isB ha hb hm
theorem se_notB (ha : SB c X W a ma) (hb : SB c X W b mb) (hm : behindInMarks .IsNot b = false := by first | exact nomark _ (by decide) (by decide) | rfl) : SE c X W (.Compare a [.IsNot] [b] pos) (fun ρ => o2 (isB true) (ma ρ) (mb ρ)) := se_cmp op_notBl v2_notB ha hb hm
theorem st_isB (ha : SB c X W a ma) (hb : SB c X W b mb) (hm : behindInMarks .Is b = false := by first | exact nomark _ (by decide) (by decide) | rfl) : ST c X W (.Compare a [.Is] [b] pos) (fun ρ => boolT (o2 (isB false) (ma ρ) (mb ρ))) := st_cmp op_isBl v2_isB ha hb hm
theorem st_notB (ha : SB c X W a ma) (hb : SB c X W b mb) (hm : behindInMarks .IsNot b = false := by first | exact nomark _ (by decide) (by decide) | rfl) : ST c X W (.Compare a [.IsNot] [b] pos) (fun ρ => boolT (o2 (isB true) (ma ρ) (mb ρ))) := st_cmp op_notBl v2_notB ha hb hm
/-! a tuple turned about -/
def revT (d : D) : M D := fun S => match d with
  | .tup ds => .ok (.tup ds.reverse) S
  | _ => .stuck
theorem se_revT {k : Nat} {p1 p2 p3 : Pos} (ha : SB c X W a ma) : SE c X W (.Subscript a (.Slice none none (some (.UnaryOp .USub (.Constant (.int 1) k p1) p2)) p3) pos) (fun ρ => bd (ma ρ) revT) := by
  refine ⟨ha.k, PE.imp (pe_revT ha.p) fun σ H Q ⟨Ψ, ρ, S, F, so, eo, q⟩ => ⟨Ψ, ρ, S, F, so, eo, q.bd.mono fun d S1 q1 Ψ1 x H1 e1 so1 r1 => ?_⟩⟩
  unfold revT at q1
  split at q1
  · obtain ⟨a1, vs, rfl, h1, l, r⟩ := (r1.h (eo.ext e1)).tup so1
    exact ⟨a1, vs, rfl, by rw [ha.k]; exact h1, fun p hp => finT so1 (fun Ψ' v H' e2 so2 r2 => q1 Ψ' v H' (e1.trans e2) so2 r2) (by rw [List.length_reverse]; exact l) r.rev hp⟩
  · exact q1.elim
/-! a list turned about -/
def revL (d : D) : M (List D) := fun S => match d with
  | .lst ds => .ok ds.reverse S
  | _ => .stuck
theorem sn_revL {k : Nat} {p1 p2 p3 : Pos} (ha : SB c X W a ma) : SN c X W (.Subscript a (.Slice none none (some (.UnaryOp .USub (.Constant (.int 1) k p1) p2)) p3) pos) (fun ρ => bd (ma ρ) revL) := by
  refine ⟨ha.k, PE.imp (pe_revL ha.p) fun σ H Q ⟨Ψ, ρ, S, F, so, eo, q⟩ => ⟨Ψ, ρ, S, F, so, eo, q.bd.mono fun d S1 q1 Ψ1 x H1 e1 so1 r1 => ?_⟩⟩
  unfold revL at q1
  split at q1
  · obtain ⟨a1, vs, rfl, h1, l, r⟩ := (r1.h (eo.ext e1)).lst so1
    exact ⟨a1, vs, rfl, SqL.of h1, fun p hp => q1 Ψ1 p _ _ (e1.trans (Ext.lay hp)) (so1.lay hp) upd_same (by rw [List.length_reverse]; exact l) r.rev (so1.phiNone hp) (so1.footNone hp) (e1.dom p hp)⟩
  · exact q1.elim
/-! stars -/
def starM (d : D) : M (List D) := fun S => match d with
  | .tup ds => .ok ds S
  | .lst ds => .ok ds S
  | _ => .stuck
def appM (m n : M (List D)) : M (List D) := bd m fun xs => bd n fun ys => rt (xs ++ ys)
theorem sa_star {ms : Env → M (List D)} (h : SB c X W a ma) (t : SA c X W es ms) (hs : starEach (.Starred a p :: es) X.env = (true, eval a X.env) :: starEach es X.env := by rfl) :
    SA c X W (.Starred a p :: es) (fun ρ => appM (bd (ma ρ) starM) (ms ρ)) := by
  refine ⟨h.k, PA.imp (StX.pa_star h.p t.p hs) fun σ H Q ⟨Ψ, ρ, S, F, so, eo, q⟩ => ⟨Ψ, ρ, S, F, so, eo, q.bd.bd.mono fun d S1 q1 Ψ1 x H1 e1 so1 r1 => ?_⟩⟩
  unfold starM at q1
  have rh := r1.h (eo.ext e1)
  have fin : ∀ {xs : List V} {ds : List D}, Reps c Ψ1 xs ds → Post c (W σ) Ψ H (bd (ms ρ) (fun ys => rt (ds ++ ys)) S1) (fun ds S' => ∀ Ψ' vs H', Ext Ψ H Ψ' H' → StoOk c Ψ' H' S' → Reps c Ψ' vs ds → Q vs H') → rA c W ms σ H1 (fun ys H2 => Q (xs ++ ys) H2) := fun {xs ds} rx qq =>
    ⟨Ψ1, ρ, S1, F, so1, eo.ext e1, (Post.ext e1 qq).bd.mono fun ys S2 q2 Ψ2 zs H2 e2 so2 r2 => q2 Ψ2 _ H2 (e1.trans e2) so2 ((rx.mono e2.le).app r2)⟩
  split at q1
  · obtain ⟨a1, vs, rfl, h1, l, r⟩ := rh.tup so1
    exact ⟨a1, vs, rfl, .inl (by rw [h.k]; exact h1), fin r q1⟩
  · obtain ⟨a1, vs, rfl, h1, l, r⟩ := rh.lst so1
    exact ⟨a1, vs, rfl, .inr (SqL.of h1), fin r q1⟩
  · exact q1.elim
end
end Sm

/-! text: Sim24 -/
set_option Elab.async false
set_option linter.all false
set_option maxRecDepth 100000
set_option maxHeartbeats 4000000
namespace Sm
open PySem PySem.Spec PyProof.Rows L2
/-! ### comprehensions with two fors -/
def lc2M (bnd : D → Option Env) (t : Env → M Bool) (it : Env → M (List D)) (bnd1 : Env → D → Option Env) (t1 : Env → M Bool) (e : Env → M D) : List D → M (List D)
  | [] => rt []
  | d :: ds => match bnd d with
    | none => stk
    | some ρ => bd (t ρ) fun b => iteM b (bd (it ρ) fun xs => bd (lcM (bnd1 ρ) t1 e xs) fun ys => bd (lc2M bnd t it bnd1 t1 e ds) fun zs => rt (ys ++ zs)) (lc2M bnd t it bnd1 t1 e ds)
def fitM (m : M (List D)) : M (List D) := bd m fun ys => fun S => if ys.length ≤ 100000 then .ok ys S else .stuck
def few (ds : List D) (m : M (List D)) : M (List D) := fun S => if ds.length ≤ 160 then m S else .stuck
theorem EnvOk.updF {c : Cf} {Ψ : Wd} {σ : L2.St} {ρ : Env} {H : Hp} {F : Nat → List Addr} {a : Addr} {o : HO} (e : EnvOk c Ψ σ ρ H F) (h : ∀ i, a ∉ F i) : EnvOk c Ψ σ ρ (upd H a o) F := by
  refine ⟨e.len, fun i s hs => (e.slot i s hs).keep (Le.refl _) fun b hb u hu => ?_, e.out, fun i b hb => ?_, e.sep⟩
  · have ne : b ≠ a := fun z => h i (by rw [← z]; exact hb)
    rw [upd_ne ne]; exact hu
  · obtain ⟨p1, p2, p3⟩ := e.priv i b hb
    have ne : b ≠ a := fun z => h i (by rw [← z]; exact hb)
    exact ⟨p1, p2, by rw [upd_ne ne]; exact p3⟩
theorem len2_lt {n i j a b : Nat} (hn : n ≤ i * 100000 + j) (hi : i < a) (ha : a ≤ 160) (hj : j < b) (hb : b ≤ 100000) : n < sizeLine := by
  have : n < 16000000 := by omega
  exact Nat.lt_of_lt_of_le this (by decide)
theorem ok0_bd {α β : Type} {m : M α} {f : α → M β} {S : Sto} {R : β → Sto → Prop} (h : Ok0 (m S) fun a S1 => Ok0 (f a S1) R) : Ok0 (bd m f S) R := by
  unfold Sm.bd
  cases e : m S with
  | ok a S1 => rw [e] at h; exact h
  | err k fs S1 => rw [e] at h; exact h.elim
  | stuck => rw [e] at h; exact h.elim
section
variable {c : Cf} {X : Cx} {W : L2.St → XK} {mi mi1 : Env → M (List D)} {mt mt1 : Env → M Bool} {me : Env → M D} {t tg1 : Tg} {vs vs1 : List Nat}
/-- the list that grows; m is what is to come -/
structure Grow2 (c : Cf) (Ψ1 : Wd) (H1 : Hp) (D0 : Addr) (R : List D → Sto → Prop) (m : M (List D)) (n : Nat) (H2 : Hp) : Prop where
  ex : ∃ Ψ2 S2 acc accV, Ext Ψ1 H1 Ψ2 H2 ∧ StoOk c Ψ2 H2 S2 ∧ H2 D0 = some (.lst accV) ∧ Reps c Ψ2 accV acc ∧ accV.length ≤ n ∧ Ψ2.fz D0 = none ∧ ¬ Foot Ψ2 D0 ∧ Ok0 (m S2) fun ys S' => R (acc ++ ys) S'
structure Grow3 (c : Cf) (Ψ1 : Wd) (H1 : Hp) (D0 : Addr) (R : List D → Sto → Prop) (m : M (List D)) (n : Nat) (Ψ5 : Wd) (σ : L2.St) (ρ : Env) (F : Nat → List Addr) (H2 : Hp) : Prop where
  ex : ∃ Ψ2 S2 acc accV, Ext Ψ1 H1 Ψ2 H2 ∧ Le Ψ5 Ψ2 ∧ EnvOk c Ψ2 σ ρ H2 F ∧ StoOk c Ψ2 H2 S2 ∧ H2 D0 = some (.lst accV) ∧ Reps c Ψ2 accV acc ∧ accV.length ≤ n ∧ Ψ2.fz D0 = none ∧ ¬ Foot Ψ2 D0 ∧ Ok0 (m S2) fun ys S' => R (acc ++ ys) S'
theorem lc2_in {W1 : L2.St → XK} (hv1 : ∀ i ∈ tg1.is, i ∈ vs1) {Ψ1 : Wd} {H1 : Hp} {D0 : Addr} {R : List D → Sto → Prop} {M2 : M (List D)} {i a : Nat} {Ψ5 : Wd} {σ : L2.St} {ρ : Env} {F : Nat → List Addr} {H5 : Hp} {J1 : It} {xs : List D} {Nx : Hp → Prop}
    (hi : i < a) (ha : a ≤ 160) (hD : H1 D0 = none) (hF : ∀ i, D0 ∉ F i) (it : ItOk c (fun Ψ2 _ => Le Ψ5 Ψ2) J1 xs)
    (g0 : Grow3 c Ψ1 H1 D0 R (bd (lcM (fun d => bindD tg1 d (wipeE ρ vs1)) mt1 me xs) fun ys => bd M2 fun zs => rt (ys ++ zs)) (i * 100000) Ψ5 σ ρ F H5) (hN : ∀ H, Grow2 c Ψ1 H1 D0 R M2 ((i + 1) * 100000) H → Nx H) :
    ∃ W2 : Nat → Nat → Hp → Prop, (∃ m, W2 0 m H5) ∧ ∀ j k H, W2 j k H →
        (J1.stop j H ∧ Nx H) ∨ (J1.go j H ∧ ∃ Nx1 : Hp → Prop, (∀ H', Nx1 H' → ∃ k', k' < k ∧ W2 (j + 1) k' H') ∧ ∀ x H', J1.yld j H x H' → gTg c.K tg1 x (wipe σ vs1) H' fun σ3 H5 => wipe σ3 vs1 = wipe σ vs1 ∧ rT c WF mt1 σ3 H5 fun b H6 =>
          if b = true then rE c WF me σ3 H6 fun y H7 => ∃ acc, H7 D0 = some (.lst acc) ∧ acc.length < sizeLine ∧ Nx1 (upd H7 D0 (.lst (acc ++ [y]))) else Nx1 H6) := by
  obtain ⟨hl1, G1, Y1, wk1, hG1, hY1⟩ := it
  have hl1' : xs.length ≤ 100000 := hl1
  refine it_gen (H0 := H5) (Qd := Nx) (B := fun x H' Nx1 => gTg c.K tg1 x (wipe σ vs1) H' fun σ3 H5 => wipe σ3 vs1 = wipe σ vs1 ∧ rT c WF mt1 σ3 H5 fun b H6 =>
      if b = true then rE c WF me σ3 H6 fun y H7 => ∃ acc, H7 D0 = some (.lst acc) ∧ acc.length < sizeLine ∧ Nx1 (upd H7 D0 (.lst (acc ++ [y]))) else Nx1 H6)
    wk1 (fun j H6 => Grow3 c Ψ1 H1 D0 R (bd (lcM (fun d => bindD tg1 d (wipeE ρ vs1)) mt1 me (xs.drop j)) fun ys => bd M2 fun zs => rt (ys ++ zs)) (i * 100000 + j) Ψ5 σ ρ F H6) ?_ ?_ ?_ ?_
  · rw [Nat.add_zero, List.drop_zero]
    exact g0
  · rintro j H6 hj ⟨Ψ6, S6, acc, accV, x6, le6, eo6, s6, _⟩
    exact hG1 Ψ6 S6 H6 le6 s6
  · rintro j x H6 H7 hj ⟨Ψ6, S6, acc, accV, x6, le6, eo6, s6, h6, r6, l6, p6, f6, k6⟩ y
    have hd : xs[j]? = some xs[j] := List.getElem?_eq_getElem hj
    obtain ⟨Ψ7, x7, s7, r7⟩ := hY1 j H6 x H7 Ψ6 S6 _ le6 s6 hd y
    have e17 := x6.trans x7
    rw [List.drop_eq_getElem_cons hj] at k6
    have k6' := k6.bd
    unfold lcM at k6'
    obtain ⟨F7, eo7, sub7⟩ := (eo6.ext x7).wipes vs1
    cases hb : bindD tg1 xs[j] (wipeE ρ vs1) with
    | none => rw [hb] at k6'; exact k6'.elim
    | some ρ' =>
      rw [hb] at k6'
      have k7 : Ok0 (bd (mt1 ρ') (fun b => iteM b (bd (me ρ') fun y => bd (lcM (fun d => bindD tg1 d (wipeE ρ vs1)) mt1 me (xs.drop (j + 1))) fun ys => rt (y :: ys)) (lcM (fun d => bindD tg1 d (wipeE ρ vs1)) mt1 me (xs.drop (j + 1)))) S6) _ := k6'
      refine bind_ok s7 eo7 r7 hb fun σ' F'' eo8 _ hw _ => ?_
      refine ⟨(hw vs1 hv1).trans (wipe_wipe fun _ h => h), Ψ7, ρ', S6, F'', s7, eo8, (k7.bd.post).mono fun b S8 q8 Ψ8 H8 x8 s8 => ?_⟩
      have hD7 : H7 D0 = some (.lst accV) := x7.keep _ _ h6 f6
      have fr7 := x7.free p6 f6 (by rw [h6]; exact fun z => nomatch z)
      have hD8 : H8 D0 = some (.lst accV) := x8.keep _ _ hD7 fr7.2
      have fr8 := x8.free fr7.1 fr7.2 (by rw [hD7]; exact fun z => nomatch z)
      have e18 := e17.trans x8
      cases b with
      | false =>
        show if false = true then _ else _
        rw [if_neg Bool.false_ne_true]
        have q8' : Ok0 (lcM (fun d => bindD tg1 d (wipeE ρ vs1)) mt1 me (xs.drop (j + 1)) S8) _ := q8
        refine ⟨Ψ8, S8, acc, accV, e18, le6.trans (x7.le.trans x8.le), eo6.ext (x7.trans x8), s8, hD8, r6.mono (x7.le.trans x8.le), Nat.le_succ_of_le l6, fr8.1, fr8.2, ?_⟩
        show Ok0 (Sm.bd _ _ S8) _
        exact ok0_bd q8'
      | true =>
        show if true = true then _ else _
        rw [if_pos rfl]
        have q9 : Ok0 (bd (me ρ') (fun y => bd (lcM (fun d => bindD tg1 d (wipeE ρ vs1)) mt1 me (xs.drop (j + 1))) fun ys => rt (y :: ys)) S8) _ := q8
        refine ⟨Ψ8, ρ', S8, F'', s8, eo8.ext x8, (q9.bd.post).mono fun dy S9 q10 Ψ9 y9 H9 x9 s9 r9 => ?_⟩
        have hD9 : H9 D0 = some (.lst accV) := x9.keep _ _ hD8 fr8.2
        have fr9 := x9.free fr8.1 fr8.2 (by rw [hD8]; exact fun z => nomatch z)
        have e19 := e18.trans x9
        refine ⟨accV, hD9, len2_lt l6 hi ha hj hl1', Ψ9, S9, acc ++ [dy], accV ++ [y9], e19.upd hD, le6.trans ((x7.le.trans x8.le).trans x9.le), (eo6.ext ((x7.trans x8).trans x9)).updF hF, s9.updF fr9.1 fr9.2, upd_same, (r6.mono ((x7.le.trans x8.le).trans x9.le)).app (.cons r9 .nil), by rw [List.length_append]; exact Nat.succ_le_succ l6, fr9.1, fr9.2, ?_⟩
        refine ok0_bd (q10.bd.mono fun ys S11 q11 => ?_)
        have q12 : Ok0 (bd M2 (fun zs => rt (dy :: ys ++ zs)) S11) _ := q11
        refine ok0_bd (q12.bd.mono fun zs S13 q13 => ?_)
        show R (acc ++ [dy] ++ (ys ++ zs)) S13
        rw [List.append_assoc]
        exact q13
  · rintro H6 ⟨Ψ6, S6, acc, accV, x6, le6, eo6, s6, h6, r6, l6, p6, f6, k6⟩
    rw [List.drop_eq_nil_of_le (Nat.le_refl _)] at k6
    have k7 : Ok0 (bd M2 (fun zs => rt ([] ++ zs)) S6) _ := k6.bd
    refine hN H6 ⟨Ψ6, S6, acc, accV, x6, s6, h6, r6, by omega, p6, f6, k7.bd⟩
theorem lc2_r (hv : ∀ i ∈ t.is, i ∈ vs) (hv1 : ∀ i ∈ tg1.is, i ∈ vs1) {σ : L2.St} {H : Hp} {Q : VK}
    (h : rN c W (fun ρ => bd (mi ρ) fun ds => noX (few ds (fitM (lc2M (fun d => bindD t d (wipeE ρ vs)) mt mi1 (fun ρ d => bindD tg1 d (wipeE ρ vs1)) mt1 me ds)))) σ H Q) :
    tLc2 (rIC c W mi) (gTg c.K t) (rT c WF mt) (rI c WF mi1) (gTg c.K tg1) (rT c WF mt1) (rE c WF me) vs vs1 σ H Q := by
  obtain ⟨Ψ, ρ, S, F, so, eo, q⟩ := h
  refine ⟨Ψ, ρ, S, F, so, eo, q.bd.mono fun ds S1 q1 Ψ1 J H1 e1 so1 it => ?_⟩
  intro D0 hD
  obtain ⟨hl, G, Y, wk, hG, hY⟩ := it
  have q2' : Ok0 (few ds (fitM (lc2M (fun d => bindD t d (wipeE ρ vs)) mt mi1 (fun ρ d => bindD tg1 d (wipeE ρ vs1)) mt1 me ds)) S1) (RN c Ψ H Q) := Post.ok0 q1
  unfold few at q2'
  split at q2'
  case isFalse => exact q2'.elim
  rename_i hfew
  have q3 := Ok0.bd q2'
  obtain ⟨F', eo', sub⟩ := eo.wipes vs
  have hHD : H D0 = none := e1.dom D0 hD
  refine it_gen (H0 := upd H1 D0 (.lst [])) (B := fun x H' Nx => gTg c.K t x (wipe σ vs) H' fun σ2 H2 => wipe σ2 vs = wipe σ vs ∧ rT c WF mt σ2 H2 fun b H3 =>
      if b = true then rI c WF mi1 σ2 H3 fun J1 H4 => ∃ W1 : Nat → Nat → Hp → Prop, (∃ m, W1 0 m H4) ∧ ∀ j k H, W1 j k H →
        (J1.stop j H ∧ Nx H) ∨ (J1.go j H ∧ ∃ Nx1 : Hp → Prop, (∀ H', Nx1 H' → ∃ k', k' < k ∧ W1 (j + 1) k' H') ∧ ∀ x H', J1.yld j H x H' → gTg c.K tg1 x (wipe σ2 vs1) H' fun σ3 H5 => wipe σ3 vs1 = wipe σ2 vs1 ∧ rT c WF mt1 σ3 H5 fun b H6 =>
          if b = true then rE c WF me σ3 H6 fun y H7 => ∃ acc, H7 D0 = some (.lst acc) ∧ acc.length < sizeLine ∧ Nx1 (upd H7 D0 (.lst (acc ++ [y]))) else Nx1 H6)
      else Nx H3)
    wk (fun i H2 => Grow2 c Ψ1 H1 D0 (fun ys S' => Ok0 ((fun S => if ys.length ≤ 100000 then Res.ok ys S else Res.stuck) S') (RN c Ψ H Q)) (lc2M (fun d => bindD t d (wipeE ρ vs)) mt mi1 (fun ρ d => bindD tg1 d (wipeE ρ vs1)) mt1 me (ds.drop i)) (i * 100000) H2) ?_ ?_ ?_ ?_
  · exact ⟨Ψ1, S1, [], [], Ext.lay hD, so1.lay hD, upd_same, .nil, Nat.zero_le _, so1.phiNone hD, so1.footNone hD, q3⟩
  · rintro i H2 hi ⟨Ψ2, S2, acc, accV, x2, s2, _⟩
    exact hG Ψ2 S2 H2 x2 s2
  · rintro i x H2 H3 hi ⟨Ψ2, S2, acc, accV, x2, s2, h2, r2, l2, p2, f2, k2⟩ y
    have hd : ds[i]? = some ds[i] := List.getElem?_eq_getElem hi
    obtain ⟨Ψ3, x3, s3, r3⟩ := hY i H2 x H3 Ψ2 S2 _ x2 s2 hd y
    have e13 := x2.trans x3
    rw [List.drop_eq_getElem_cons hi] at k2
    unfold lc2M at k2
    cases hb : bindD t ds[i] (wipeE ρ vs) with
    | none => rw [hb] at k2; exact k2.elim
    | some ρ' =>
      rw [hb] at k2
      have k3 : Ok0 (bd (mt ρ') (fun b => iteM b (bd (mi1 ρ') fun xs => bd (lcM (fun d => bindD tg1 d (wipeE ρ' vs1)) mt1 me xs) fun ys => bd (lc2M (fun d => bindD t d (wipeE ρ vs)) mt mi1 (fun ρ d => bindD tg1 d (wipeE ρ vs1)) mt1 me (ds.drop (i + 1))) fun zs => rt (ys ++ zs)) (lc2M (fun d => bindD t d (wipeE ρ vs)) mt mi1 (fun ρ d => bindD tg1 d (wipeE ρ vs1)) mt1 me (ds.drop (i + 1)))) S2) _ := k2
      refine bind_ok s3 (eo'.ext (e1.trans e13)) r3 hb fun σ' F'' eo3 sub3 hw _ => ?_
      refine ⟨(hw vs hv).trans (wipe_wipe fun _ h => h), Ψ3, ρ', S2, F'', s3, eo3, (k3.bd.post).mono fun b S4 q4 Ψ4 H4 x4 s4 => ?_⟩
      have hD3 : H3 D0 = some (.lst accV) := x3.keep _ _ h2 f2
      have fr3 := x3.free p2 f2 (by rw [h2]; exact fun z => nomatch z)
      have hD4 : H4 D0 = some (.lst accV) := x4.keep _ _ hD3 fr3.2
      have fr4 := x4.free fr3.1 fr3.2 (by rw [hD3]; exact fun z => nomatch z)
      have e14 := e13.trans x4
      cases b with
      | false =>
        show if false = true then _ else _
        rw [if_neg Bool.false_ne_true]
        exact ⟨Ψ4, S4, acc, accV, e14, s4, hD4, r2.mono (x3.le.trans x4.le), Nat.le_trans l2 (Nat.mul_le_mul_right _ (Nat.le_succ i)), fr4.1, fr4.2, q4⟩
      | true =>
        show if true = true then _ else _
        rw [if_pos rfl]
        have q5 : Ok0 (bd (mi1 ρ') (fun xs => bd (lcM (fun d => bindD tg1 d (wipeE ρ' vs1)) mt1 me xs) fun ys => bd (lc2M (fun d => bindD t d (wipeE ρ vs)) mt mi1 (fun ρ d => bindD tg1 d (wipeE ρ vs1)) mt1 me (ds.drop (i + 1))) fun zs => rt (ys ++ zs)) S4) _ := q4
        have eo4 := eo3.ext x4
        refine ⟨Ψ4, ρ', S4, F'', s4, eo4, (q5.bd.post).mono fun xs S5 q6 Ψ5 J1 H5 x5 s5 it1 => ?_⟩
        have hD5 : H5 D0 = some (.lst accV) := x5.keep _ _ hD4 fr4.2
        have fr5 := x5.free fr4.1 fr4.2 (by rw [hD4]; exact fun z => nomatch z)
        have e15 := e14.trans x5
        have eo5 := eo4.ext x5
        refine lc2_in (W1 := W) (ρ := ρ') (F := F'') (i := i) (a := ds.length) hv1 hi hfew hD (fun k z => (eo.priv k D0 (sub _ _ (sub3 _ _ z))).2.2 hHD) it1 ?_ (fun H g => g)
        exact ⟨Ψ5, S5, acc, accV, e15, Le.refl _, eo5, s5, hD5, r2.mono ((x3.le.trans x4.le).trans x5.le), l2, fr5.1, fr5.2, q6⟩
  · rintro H2 ⟨Ψ2, S2, acc, accV, x2, s2, h2, r2, l2, p2, f2, k2⟩
    rw [List.drop_eq_nil_of_le (Nat.le_refl _)] at k2
    have k3 : Ok0 ((fun S => if (acc ++ []).length ≤ 100000 then Res.ok (acc ++ []) S else Res.stuck) S2) (RN c Ψ H Q) := k2
    rw [List.append_nil] at k3
    dsimp only at k3
    split at k3
    · rename_i hfit
      exact k3 Ψ2 D0 accV H2 (e1.trans x2) s2 h2 (by rw [r2.length]; exact hfit) r2 p2 f2 (e1.dom D0 hD)
    · exact k3.elim
end
section
variable {c : Cf} {X : Cx} {W : L2.St → XK} {mi mi1 : Env → M (List D)} {mt mt1 : Env → M Bool} {me : Env → M D} {t t1 : Tg} {elt tg iter tg1 iter1 : Expr} {ifs ifs1 : List Expr} {scope : Scope} {own : List (Str × Nat)} {vs1 : List Nat} {pos : Pos}
theorem sn_lc2 (hi : SIC c X W tg iter mi) (hN : X.N.Nodup) (ok : BlkOk X.N X.env.scope scope own) (hv : ∀ i ∈ t.is, i ∈ own.map (·.2)) (hv1 : ∀ i ∈ t1.is, i ∈ vs1) (hvv : ∀ i ∈ vs1, i ∈ own.map (·.2))
    (hg : ∀ (s : Shared) (H : Hp) (C : Addr) (cl : List (Str × Addr)) (fp : List Addr), SG (X.blk s H scope (compEnvC scope cl C X.env) fp) tg t) (ht : ∀ (s : Shared) (H : Hp) (C : Addr) (cl : List (Str × Addr)) (fp : List Addr), STs c (X.blk s H scope (compEnvC scope cl C X.env) fp) WF ifs mt)
    (hi1 : ∀ (s : Shared) (H : Hp) (C : Addr) (cl : List (Str × Addr)) (fp : List Addr), SI c (X.blk s H scope (compEnvC scope cl C X.env) fp) WF tg1 iter1 mi1)
    (hg1 : ∀ (s : Shared) (H : Hp) (C : Addr) (cl : List (Str × Addr)) (fp : List Addr), SG (X.blk s H scope (compEnvC scope cl C X.env) fp) tg1 t1) (ht1 : ∀ (s : Shared) (H : Hp) (C : Addr) (cl : List (Str × Addr)) (fp : List Addr), STs c (X.blk s H scope (compEnvC scope cl C X.env) fp) WF ifs1 mt1)
    (he : ∀ (s : Shared) (H : Hp) (C : Addr) (cl : List (Str × Addr)) (fp : List Addr), SE c (X.blk s H scope (compEnvC scope cl C X.env) fp) WF elt me) (hc : X.calm = true := by rfl) (hs : ∀ x, foldedSetIterable iter X.env x = pure x := by intro _; rfl) (hs1 : ∀ env x, foldedSetIterable iter1 env x = pure x := by intro _ _; rfl) :
    SN c X W (.ListComp elt [⟨tg, iter, ifs, 0⟩, ⟨tg1, iter1, ifs1, 0⟩] scope pos) (fun ρ => bd (mi ρ) fun ds => noX (few ds (fitM (lc2M (fun d => bindD t d (wipeE ρ (own.map (·.2)))) mt mi1 (fun ρ d => bindD t1 d (wipeE ρ vs1)) mt1 me ds)))) :=
  ⟨hi.k, PE.imp (pe_lc2 hc hN hi.p ok hvv (fun s H C cl fp => hi.k ▸ (hg s H C cl fp).p) (fun s H C cl fp => (ht s H C cl fp).p) (fun s H C cl fp => (hi1 s H C cl fp).p) (fun s H C cl fp => hi.k ▸ (hg1 s H C cl fp).p) (fun s H C cl fp => (ht1 s H C cl fp).p) (fun s H C cl fp => (he s H C cl fp).p) hs hs1) fun σ H Q h => lc2_r hv hv1 h⟩
end
end Sm

/-! text: Sim25 -/
set_option Elab.async false
set_option linter.all false
set_option maxRecDepth 100000
set_option maxHeartbeats 2000000
namespace Sm
open PySem PySem.Spec PyProof.Rows L2
/-! list(range(a, b)) -/
def listRg2M (m n : M D) : M (List D) := bd m fun x => bd n fun y => fun S => match x, y with
  | .int i, .int j => if 0 ≤ i ∧ i ≤ 100000 ∧ 0 ≤ j ∧ j ≤ 100000 then .ok (rng i (j - i).toNat) S else .stuck
  | _, _ => .stuck
section
variable {c : Cf} {X : Cx} {WW : L2.St → XK} {a b : Expr} {pos p2 p3 cpos : Pos} {ma mb : Env → M D}
theorem sn_listRg2 (ha : SE c X WW a ma) (hb : SE c X WW b mb) (hml : X.mg "list" = none) (hmr : X.mg "range" = none) (hgl : Gl X "list" := by rfl) (hgr : Gl X "range" := by rfl) (hc : X.calm = true := by rfl)
    (na : starEach [.Call (.Name "range" p3) [a, b] [] p2] X.env = (false, eval (.Call (.Name "range" p3) [a, b] [] p2) X.env) :: starEach [] X.env := by rfl) (nb : starEach [a, b] X.env = (false, eval a X.env) :: starEach [b] X.env := by rfl)
    (nc : starEach [b] X.env = (false, eval b X.env) :: starEach [] X.env := by rfl) (hp : (backTo p2 (starEach [b] X.env)).any (·.1) = false := by rfl) :
    SN c X WW (.Call (.Name "list" pos) [.Call (.Name "range" p3) [a, b] [] p2] [] cpos) (fun ρ => listRg2M (ma ρ) (mb ρ)) := by
  refine ⟨ha.k, PE.imp (pe_listRg hc hgl hml (prg_2 hgr hmr ha.p hb.p nb nc hp) na) fun σ H Q ⟨Ψ, ρ, S, F, so, eo, q⟩ => ⟨Ψ, ρ, S, F, so, eo, q.bd.mono fun x S1 q1 Ψ1 v H1 x1 s1 r1 => ?_⟩⟩
  refine ⟨Ψ1, ρ, S1, F, s1, eo.ext x1, (q1.ext x1).bd.mono fun y S2 q2 Ψ2 u H2 x2 s2 r2 => ?_⟩
  split at q2
  · split at q2
    · rename_i ii jj hj
      cases r1
      cases r2
      refine ⟨ii, jj, rfl, rfl, RgOk.of_le (by omega) (by omega) (by omega) (by omega), fun t ht => ?_⟩
      have hlen : (rgV ii jj).length ≤ LIM := by
        rw [rgV_length]
        show _ ≤ 100000
        omega
      have x12 := x1.trans x2
      refine q2 Ψ2 t _ _ (x12.trans (Ext.lay ht)) (s2.lay ht) upd_same hlen ?_ (s2.phiNone ht) (s2.footNone ht) (x12.dom _ ht)
      unfold rgV rng
      have key : ∀ l : List Nat, Reps c Ψ2 (l.map fun (i : Nat) => V.int (ii + (i : Nat))) (l.map fun (i : Nat) => D.int (ii + (i : Nat))) := fun l => by
        induction l with
        | nil => exact .nil
        | cons i l ih => exact .cons (.int _) ih
      exact key _
    · exact q2.elim
  · exact q2.elim
end
/-! which method it is hangs on the receiver's class -/
def isK (k : Nat) (d : D) : Bool := match d with
  | .ins j _ => decide (j = k)
  | _ => false
theorem se_byv {c : Cf} {X : Cx} {W : L2.St → XK} {e : Expr} {m0 : Env → M D} {A B : Env → D → M D} (p : D → Bool) (hA : SE c X W e (fun ρ => bd (m0 ρ) (A ρ))) (hB : SE c X W e (fun ρ => bd (m0 ρ) (B ρ))) :
    SE c X W e (fun ρ => bd (m0 ρ) fun d => bif p d then A ρ d else B ρ d) := by
  refine ⟨hA.k, ⟨fun pins s σ H Q I ⟨Ψ, ρ, S, F, so, eo, q⟩ => ?_⟩⟩
  have key : (bd (m0 ρ) (fun d => bif p d then A ρ d else B ρ d) S = bd (m0 ρ) (A ρ) S) ∨ (bd (m0 ρ) (fun d => bif p d then A ρ d else B ρ d) S = bd (m0 ρ) (B ρ) S) := by
    unfold bd
    cases m0 ρ S with
    | ok d S1 =>
      cases h : p d with
      | true => exact .inl (by simp only [h, cond_true])
      | false => exact .inr (by simp only [h, cond_false])
    | err k fs S1 => exact .inl rfl
    | stuck => exact .inl rfl
  rcases key with h | h
  · exact hA.p.run pins s σ H Q I ⟨Ψ, ρ, S, F, so, eo, by dsimp only at q ⊢; rw [← h]; exact q⟩
  · exact hB.p.run pins s σ H Q I ⟨Ψ, ρ, S, F, so, eo, by dsimp only at q ⊢; rw [← h]; exact q⟩
/-! a, b = x, y where a name is a cell: the tuple is made -/
theorem ss_parC {c : Cf} {X : Cx} {W : XK} {ma : Env → M (List Slot)} {es : List Expr} {tg : Expr} {is : List Nat} {kx} {p pos : Pos} (ha : SAM c X (cW W) es ma) (ht : SG X tg (.tup is)) (hl : is.length ≤ 100000 := by decide)
    (hs : swapsWithSole [tg] (.Tuple es kx p) pos.line X.env = pure false := by rfl) (hw : swappedStores [tg] (.Tuple es kx p) X.env = pure none := by rfl)
    (h1 : (assignEach [tg] X.env).map (·.2) = [assign tg X.env] := by rfl) : SS c X W (.Assign [tg] (.Tuple es kx p) pos) (parS is is.length ma) := by
  refine ⟨ha.k, PS.imp (ps_asg (pe_tup ha.p) ht.p hs hw h1) fun D σ H ⟨B, Ψ, ρ, S, F, g, q⟩ => ⟨Ψ, ρ, S, F, g.so, g.eo, (q.bd.ext g.x).mono fun ss S1 q1 Ψ1 vs As H1 x1 s1 r1 => ?_⟩⟩
  split at q1
  · rename_i h2
    obtain ⟨F', g'⟩ := Gd.setsM (is := is) (fun b hb => g.x.dom b hb) r1 (g.ext x1 s1) fun b hb k hk => (g.eo.priv k b hk).2.2 (r1.mem b hb).1
    have hlen : vs.length = is.length := by rw [r1.len, h2]
    refine ⟨lim_of (by rw [hlen]; exact hl), fun p hp => ?_⟩
    refine ⟨p, vs, rfl, SqT.of upd_same, hlen, ?_⟩
    exact q1 Ψ1 _ _ F' (g'.ext (Ext.lay hp) (s1.lay hp))
  · exact q1.elim
end Sm

/-! text: Sim26 -/
set_option Elab.async false
set_option linter.all false
set_option maxRecDepth 100000
set_option maxHeartbeats 2000000
namespace Sm
open PySem PySem.Spec PyProof.Rows L2
/-! len(o) of an instance whose class has __len__ -/
def rLenOwn (C : Addr) (sp : Sp) (E : XK) : List V → Hp → VK → Prop := fun xs H Q => ∃ a dx vs, xs = [V.ref a] ∧ SlX.Slt H a C dx vs ∧ sp [.ref a] H (fun z H' => ∃ i : Int, z = .int i ∧ (0 ≤ i ∧ i < 2 ^ 63) ∧ Q z H') E
theorem call_lenOwn {X : Cx} {CX : CXT} {C g : Addr} {n : Nat} {sp : Sp} {E : XK} (hs : PySem.W.findIn X.K (.ref C) "__len__" = some (some (.ref g))) (hf : PySem.W.isFn X.K (.ref g) = true) (F : FnR X.prog X.w X.K X.mg X.base CX n g sp) (hr : Room (n + 1) X.A) (hx : Passes CX X E) : CallR X (.builtin "len") (rLenOwn C sp E) := by
  intro pins s σ H xs us Q I r h
  obtain ⟨a, dx, vs, rfl, hsl, q⟩ := h
  obtain ⟨u, rfl, ru⟩ := r.one
  cases (show u = Value.ref a from ru)
  obtain ⟨sl, od, _, J, _⟩ := SlX.slt_inst I hsl
  obtain ⟨m, hF⟩ := I.fr
  refine PySem.W.len_K hF I.ok.mod.kin J hs hf (wpAny_mono (wpAny_call (SlX.run_at (us := [.ref a]) (ws := [.ref a]) F hr.in1 I.env0.in1 hx I (.cons rfl .nil) q)) (fun w s' z => ?_) fun _ _ x => x)
  obtain ⟨z', H', I', rz, i, ei, hi, qz⟩ := z
  subst ei
  obtain ⟨t, e⟩ := (show ∃ t, w = Value.int i t from rz)
  cases e
  exact ⟨hi, .int i, H', I'.tok _, ⟨_, rfl⟩, qz⟩
def lenI (d : D) : M D := fun S => match d with
  | .int i => if 0 ≤ i ∧ i < 100 then .ok (.int i) S else .stuck
  | _ => .stuck
theorem se_lenO {c : Cf} {X : Cx} {W : L2.St → XK} {a : Expr} {me : Env → M D} {g : Addr} {n k : Nat} {m : List D → M D} {p pos : Pos} (h : SE c X W a me) (hm : X.mg "len" = none) (C : SlX.SCls c.K (c.cls k)) (t : Meth c.K (c.cls k) "__len__" g) (G : Fn c X.prog X.w X.mg X.base n g 1 m) (hr : Room (n + 1) X.A)
    (hg : Gl X "len" := by rfl) (he : starEach [a] X.env = (false, eval a X.env) :: starEach [] X.env := by rfl) :
    SE c X W (.Call (.Name "len" p) [a] [] pos) (fun ρ => bd (me ρ) fun d => bd (insM k d) fun d => bd (noX (callM 1 m [d])) lenI) := by
  have G' : FnR X.prog X.w X.K X.mg X.base (L2.CX X.prog X.w) n g (PromF c 1 m) := by rw [h.k]; exact G.r
  refine ⟨h.k, PE.imp (pe_callB (call_lenOwn (C := c.cls k) (E := E0) (by rw [h.k]; exact t.at_) (by rw [h.k]; exact t.fn) G' hr (fun pins σ H s er s' I z => by
    obtain ⟨_, _, _, _, _, _, _, _, _, _, _, _, z⟩ := z
    exact z.elim)) hg hm boot_len (pa_cons h.p pa_nil he) (by decide) (by decide) he) fun σ H Q ⟨Ψ, ρ, S, F, so, eo, q⟩ => ⟨Ψ, ρ, S, F, so, eo, q.bd.mono fun d S1 q1 Ψ1 v H1 x1 s1 r1 => ?_⟩⟩
  have q2 := q1.bd
  unfold insM at q2
  split at q2
  · split at q2
    · rename_i _ fs _ ek _
      subst ek
      have q3 := (show Post c (W σ) Ψ H (bd (noX (callM 1 m [.ins _ fs])) lenI S1) _ from q2).bd
      cases r1 with
      | ins h0 r0 =>
        refine ⟨_, _, _, rfl, slt_phi s1 h0, ?_⟩
        refine prom_of (E := E0) (ds := [.ins _ fs]) s1 (.cons (.ins h0 r0) .nil) ((Post.noX (W' := E0) q3).ext x1) fun d' S' Ψ' v H' q4 e2 s2 r2 => ?_
        unfold lenI at q4
        split at q4
        · split at q4
          · rename_i hb
            cases r2
            exact ⟨_, rfl, by omega, q4 Ψ' _ H' (x1.trans e2) s2 (.int _)⟩
          · exact q4.elim
        · exact q4.elim
    · exact q2.elim
  · exact q2.elim
end Sm

/-! text: Sim27 -/
set_option Elab.async false
set_option linter.all false
set_option maxRecDepth 100000
set_option maxHeartbeats 2000000
namespace Sm
open PySem PySem.Spec PyProof.Rows L2
/-! a == b of two instances of one class with its own __eq__ -/
theorem se_eqO {c : Cf} {X : Cx} {E : XK} {a b : Expr} {ma mb : Env → M D} {g : Addr} {n k : Nat} {m : List D → M D} {pos : Pos} (ha : SE c X (cW E) a ma) (hb : SE c X (cW E) b mb) (t : Meth c.K (c.cls k) "__eq__" g) (G : Fn c X.prog X.w X.mg X.base n g 2 m) (hr : Room n X.A) (tk : Takes X (wx (cW E)))
    (hm : behindInMarks .Eq b = false := by first | exact nomark _ (by decide) (by decide) | rfl) :
    SE c X (cW E) (.Compare a [.Eq] [b] pos) (fun ρ => bd (ma ρ) fun x => bd (mb ρ) fun y => bd (insM k x) fun x => bd (insM k y) fun y => callM 2 m [x, y]) := by
  have G' : FnR X.prog X.w X.K X.mg X.base (L2.CX X.prog X.w) n g (PromF c 2 m) := by rw [ha.k]; exact G.r
  refine ⟨ha.k, PE.imp (pe_cmpR (SlX.op_own (op := .Eq) (C := c.cls k) (fun _ _ => rfl) (by rw [ha.k]; exact t.at_) (by rw [ha.k]; exact t.fn) G' hr (passes_wx tk)) ha.p hb.p hm) fun σ H Q ⟨Ψ, ρ, S, F, so, eo, q⟩ => ⟨Ψ, ρ, S, F, so, eo, q.bd.mono fun x S1 q1 Ψ1 v H1 x1 s1 r1 => ?_⟩⟩
  refine ⟨Ψ1, ρ, S1, F, s1, eo.ext x1, (Post.bd (Post.ext x1 q1)).mono fun y S2 q2 Ψ2 u H2 x2 s2 r2 => ?_⟩
  have q3 := q2.bd
  unfold insM at q3
  split at q3
  · split at q3
    · rename_i _ fs _ ek _
      subst ek
      have q4 := (show Post c (cW E σ) Ψ1 H1 (bd (insM _ y) (fun y => callM 2 m [.ins _ fs, y]) S2) _ from q3).bd
      unfold insM at q4
      split at q4
      · split at q4
        · rename_i _ gs _ ek2 _
          subst ek2
          have q5 : Post c E Ψ1 H1 (callM 2 m [.ins _ fs, .ins _ gs] S2) _ := q4
          cases r1 with
          | ins h0 r0 =>
            cases r2 with
            | ins h0' r0' =>
              have h0k := x2.le.slt h0
              refine ⟨_, _, _, _, _, _, _, rfl, rfl, slt_phi s2 h0k, slt_phi s2 h0', by unfold PySem.W.notFirst; simp, ?_⟩
              exact prom_of (E := E) (ds := [.ins _ fs, .ins _ gs]) s2 (.cons (.ins h0k (r0.mono x2.le)) (.cons (.ins h0' r0') .nil)) (q5.ext x2) fun d' S' Ψ' v H' q6 e2 s3 r3 => q6 Ψ' v H' ((x1.trans x2).trans e2) s3 r3
        · exact q4.elim
      · exact q4.elim
    · exact q3.elim
  · exact q3.elim
end Sm

/-! text: Sim28 -/
set_option Elab.async false
set_option linter.all false
set_option maxRecDepth 100000
set_option maxHeartbeats 2000000
namespace Sm
open PySem PySem.SeqAt
open AutoSeq1 (wpAny_loadPart')
open MeetsSeq MeetsSeq2 MeetsSeq3 SeqRoads2
section
variable {prog : Program} {w : World} {A : Around} {R : Result → Shared → Prop}
/-- two lists of N items each can be read -/
def Two (l b : Addr) (N : Nat) (s : Shared) (us vs : Array Value) : Prop := ∃ n n2 : Nat, s.heap.get? l = some { cls := .type "list", data := .seq us n } ∧ s.heap.get? b = some { cls := .type "list", data := .seq vs n2 } ∧ us.size = N ∧ vs.size = N
/-- the turns: True goes on, False ends -/
def Turns (prog : Program) (w : World) (A : Around) (E : Value → Shared → Prop) (l b : Addr) (N : Nat) (I : Nat → Shared → Prop) (J : Shared → Prop) : Prop :=
  ∀ i s, I i s → ∃ us vs, Two l b N s us vs ∧ ∀ (h1 : i < us.size) (h2 : i < vs.size), wpAny (model prog w) A.in1 (eqBool us[i] vs[i]) (fun r s' => (r = true ∧ I (i + 1) s') ∨ (r = false ∧ J s' ∧ ∃ us' vs', Two l b N s' us' vs')) E s
theorem loopB (l b : Addr) (N : Nat) (I : Nat → Shared → Prop) (J : Shared → Prop) (ht : Turns prog w A (fun e s' => R (.error e) s') l b N I J)
    (yes : ∀ s, I N s → R (.ok (.ret (.bool true))) s) (no : ∀ s, J s → R (.ok (.ret (.bool false))) s) : ∀ (k i : Nat), N - i = k → i ≤ N → ∀ s, I i s →
      wpAny (model prog w) A.in1 (Builtin.«list.__eq__.loop» ⟨[.ref l, .ref b, rawInt i, rawInt 2], []⟩) (GQ.FinOf prog w A R) (fun e s' => R (.error e) s') s := by
  intro k
  induction k with
  | zero =>
    intro i hk hi s hI
    obtain ⟨us, vs, ⟨n, n2, gl, gb, e1, e2⟩, _⟩ := ht _ _ hI
    have hN : i = N := by omega
    have fin : R (.ok (.ret (.bool true))) s := yes s (hN ▸ hI)
    have m1 : us[((i : Nat) : Int).toNat]? = none := by simp; omega
    have m2 : vs[((i : Nat) : Int).toNat]? = none := by simp; omega
    obtain ⟨sh, sg, sd, st, so⟩ := s
    wp_walk using wpAny_loadPart' gl, wpAny_loadPart' gb
    rw [m1, m2]
    wp_walk using wpAny_loadPart' gl, wpAny_loadPart' gb
    show R (.ok (.ret (.bool (us.size == vs.size)))) _
    rw [e1, e2]
    simpa using fin
  | succ k ih =>
    intro i hk hi s hI
    obtain ⟨us, vs, ⟨n, n2, gl, gb, e1, e2⟩, turn⟩ := ht _ _ hI
    have t := turn (by omega) (by omega)
    have m1 : us[((i : Nat) : Int).toNat]? = some (us[i]'(by omega)) := by
      rw [Int.toNat_natCast]; exact Array.getElem?_eq_getElem (by omega)
    have m2 : vs[((i : Nat) : Int).toNat]? = some (vs[i]'(by omega)) := by
      rw [Int.toNat_natCast]; exact Array.getElem?_eq_getElem (by omega)
    obtain ⟨sh, sg, sd, st, so⟩ := s
    wp_walk using wpAny_loadPart' gl, wpAny_loadPart' gb
    rw [m1, m2]
    refine wpAny_bind (wpAny_mono t (fun r s3 q => ?_) fun _ _ z => z)
    rcases q with ⟨rfl, q⟩ | ⟨rfl, q, us', vs', k1, k2, gl', gb', e1', e2'⟩
    · have rec_ := ih (i + 1) (by omega) (by omega) s3 q
      have step : ((i : Int) + 1) = ((i + 1 : Nat) : Int) := by omega
      obtain ⟨sh3, sg3, sd3, st3, so3⟩ := s3
      wp_walk
      rw [step]
      exact ⟨plainId_quiet plain_eq_loop _, codeAny_builtin entry_eq_loop (by rw [Around.under_plainId plain_eq_loop _]; exact rec_)⟩
    · have out := no s3 q
      have m3 : us'[((i : Nat) : Int).toNat]? = some (us'[i]'(by omega)) := by
        rw [Int.toNat_natCast]; exact Array.getElem?_eq_getElem (by omega)
      have m4 : vs'[((i : Nat) : Int).toNat]? = some (vs'[i]'(by omega)) := by
        rw [Int.toNat_natCast]; exact Array.getElem?_eq_getElem (by omega)
      obtain ⟨sh3, sg3, sd3, st3, so3⟩ := s3
      wp_walk using wpAny_loadPart' gl', wpAny_loadPart' gb'
      rw [m3, m4]
      wp_walk
      exact out
end
end Sm

/-! text: Sim29 -/
set_option Elab.async false
set_option linter.all false
set_option maxRecDepth 100000
set_option maxHeartbeats 2000000
namespace Sm
open PySem PySem.Spec PyProof.Rows L2
/-- == of two lists as long as one another, turn by turn -/
theorem rc_listsB {prog : Program} {w : World} {A : Around} {E : Value → Shared → Prop} {s : Shared} {l b : Addr} {N : Nat} {Q : Value → Shared → Prop} (hu : A.units < cLine) (I : Nat → Shared → Prop) (J : Shared → Prop) (ht : Turns prog w A E l b N I J)
    (yes : ∀ s, I N s → Q (.bool true) s) (no : ∀ s, J s → Q (.bool false) s) (h : I 0 s) : wpAny (model prog w) A (richCompare .Eq (.ref l) (.ref b)) Q E s := by
  obtain ⟨us, vs, ⟨n, n2, gl, gb, e1, e2⟩, _⟩ := ht _ _ h
  refine wpAny_richCompare_same_room (op := .Eq) ⟨_, gl, rfl⟩ ⟨_, gb, rfl⟩ F.slot_list_eq (GQ.call_here F.slot_list_eq ⟨_, gl, rfl⟩ F.entry_list_eq (F.args_list_eq_2 _ _) ?_) hu
  have go := loopB (A := A) (R := wants (fun v s' => v ≠ .notImplemented ∧ Q v s') E) l b N I J ht (fun s' q => ⟨(fun x => nomatch x), yes s' q⟩) (fun s' q => ⟨(fun x => nomatch x), no s' q⟩) _ 0 rfl (Nat.zero_le _) s h
  have ne : ¬ (us.size != vs.size) = true := by simp [e1, e2]
  have sub := AutoSeq1.sub_list_list
  obtain ⟨sh, sg, sd, st, so⟩ := s
  wp_walk using AutoSeq1.wpAny_loadPart' gl, AutoSeq1.wpAny_loadPart' gb
  exact ⟨plainId_quiet MeetsSeq3.plain_eq_loop _, codeAny_builtin MeetsSeq3.entry_eq_loop (by rw [Around.under_plainId MeetsSeq3.plain_eq_loop _]; exact go)⟩
/-- a tuple is read in one way, and is no list -/
structure Uq (K : PySem.W.Frag) (H : Hp) : Prop where
  tt : ∀ p xs ys, SqT K H p xs → SqT K H p ys → xs = ys
  tl : ∀ p xs ys, SqT K H p xs → H p = some (.lst ys) → False
  ss : ∀ a C dx dx' v v', SlX.Slt H a C dx [some v] → SlX.Slt H a C dx' [some v'] → v = v'
def vOf : Value → V
  | .bool b => .bl b
  | .int i _ => .int i
  | .str x _ => .str x
  | .bytes b _ => .byt b
  | .float b _ => .flt b
  | .ref a => .ref a
  | .type n => .ty n
  | _ => .non
theorem vOf_rel {x : V} {u : Value} (h : RelV x u) : vOf u = x := by
  cases x with
  | non => cases (show u = Value.none from h); rfl
  | bl b => cases (show u = Value.bool b from h); rfl
  | int i => obtain ⟨t, rfl⟩ := (show ∃ t, u = Value.int i t from h); rfl
  | str z => obtain ⟨t, rfl⟩ := (show ∃ t, u = Value.str z t from h); rfl
  | byt b => obtain ⟨t, rfl⟩ := (show ∃ t, u = Value.bytes b t from h); rfl
  | flt b => obtain ⟨t, rfl⟩ := (show ∃ t, u = Value.float b t from h); rfl
  | ref a => cases (show u = Value.ref a from h); rfl
  | ty n => cases (show u = Value.type n from h); rfl
theorem relV_uni {u : Value} {x y : V} (hx : RelV x u) (hy : RelV y u) : x = y := (vOf_rel hx).symm.trans (vOf_rel hy)
theorem vals_uni : ∀ {us : List Value} {xs ys : List V}, Vals xs us → Vals ys us → xs = ys
  | [], _, _, .nil, .nil => rfl
  | _ :: _, _, _, .cons h t, .cons h' t' => by rw [relV_uni h h', vals_uni t t']
theorem uq_of {X : Cx} {pins : List (Addr × Obj)} {σ : L2.St} {H : Hp} {s : Shared} (I1 : Inv X pins σ H s) : Uq X.K H where
  tt := fun p xs ys ha hb => by
    obtain ⟨i1, t1, g1', _⟩ := I1.tuple ha
    obtain ⟨i2, t2, g2', _⟩ := I1.tuple hb
    obtain ⟨o1, ho1, hc1, m1, hd1⟩ := g1'
    obtain ⟨o2, ho2, hc2, m2, hd2⟩ := g2'
    rw [ho1] at ho2
    cases ho2
    rw [hd1] at hd2
    injection hd2 with hd2 _
    have : i1 = i2 := by simpa using hd2
    subst this
    exact vals_uni t1 t2
  tl := fun p xs ys ha hb => by
    obtain ⟨i1, t1, g1', _⟩ := I1.tuple ha
    obtain ⟨o1, ho1, hc1, m1, hd1⟩ := g1'
    obtain ⟨z2, it2, k2, r2, g2⟩ := I1.hok p _ hb
    rw [ho1] at g2
    cases g2
    exact absurd (show ("list" : String) = "tuple" by simpa using hc1) (by decide)
  ss := fun a C dx dx' v v' h h' => by
    obtain ⟨sl, od, r, J, _⟩ := SlX.slt_inst I1 h
    obtain ⟨sl', od', r', J', _⟩ := SlX.slt_inst I1 h'
    have e := J.1.symm.trans J'.1
    have e2 := congrArg Obj.slots (Option.some.inj e)
    have e3 : sl = sl' := e2
    subst e3
    obtain ⟨u, hu, ru⟩ := r 0 v rfl
    obtain ⟨u', hu', ru'⟩ := r' 0 v' rfl
    rw [hu] at hu'
    cases hu'
    exact relV_uni ru ru'
/-- items compared one by one by the class's own ==, the lists kept -/
def EqC (K : PySem.W.Frag) (C : Addr) (sp : Sp) (E : XK) (la lb : Addr) (XS YS : List V) : List V → List V → Hp → (Bool → Hp → Prop) → Prop
  | [], [], H, Q => Q true H
  | x :: xs, y :: ys, H, Q => ∃ a b dx dy vs ws, x = .ref a ∧ y = .ref b ∧ SlX.Slt H a C dx vs ∧ SlX.Slt H b C dy ws ∧ (a = b → Uq K H → EqC K C sp E la lb XS YS xs ys H Q) ∧
      (a ≠ b → sp [.ref a, .ref b] H (fun z H' => H' la = some (.lst XS) ∧ H' lb = some (.lst YS) ∧ ∃ r, z = .bl r ∧ (r = true → EqC K C sp E la lb XS YS xs ys H' Q) ∧ (r = false → Q false H')) E)
  | _, _, _, _ => False
def rListO (K : PySem.W.Frag) (C : Addr) (sp : Sp) (E : XK) : R2 := fun x y H Q => ∃ la lb XS YS, x = .ref la ∧ y = .ref lb ∧ H la = some (.lst XS) ∧ H lb = some (.lst YS) ∧
  ((XS.length ≠ YS.length ∧ Q (.bl false) H) ∨ (XS.length = YS.length ∧ EqC K C sp E la lb XS YS XS YS H fun r H' => Q (.bl r) H'))
theorem eqC_len {K : PySem.W.Frag} {C : Addr} {sp : Sp} {E : XK} {la lb : Addr} {XS YS : List V} : ∀ {xs ys : List V} {H : Hp} {Q : Bool → Hp → Prop}, EqC K C sp E la lb XS YS xs ys H Q → xs.length = ys.length → True
  | _, _, _, _, _, _ => trivial
theorem op_listO {X : Cx} {CX : CXT} {C g : Addr} {n : Nat} {sp : Sp} {E : XK} (hs : PySem.W.findIn X.K (.ref C) "__eq__" = some (some (.ref g))) (hf : PySem.W.isFn X.K (.ref g) = true) (F : FnR X.prog X.w X.K X.mg X.base CX n g sp) (hr : Room (n + 1) X.A) (hx : Passes CX X E) : OpR X (compareOp .Eq) (rListO X.K C sp E) := by
  intro pins s σ H x y v u Q I rx ry h
  obtain ⟨la, lb, XS, YS, rfl, rfl, hA, hB, q⟩ := h
  cases (show v = Value.ref la from rx)
  cases (show u = Value.ref lb from ry)
  show wpAny _ _ (richCompare .Eq (.ref la) (.ref lb)) _ _ _
  rcases q with ⟨hne, q⟩ | ⟨hlen, q⟩
  · obtain ⟨z1, it1, k1, r1, g1⟩ := I.hok la _ hA
    obtain ⟨z2, it2, k2, r2, g2⟩ := I.hok lb _ hB
    refine SeqAt.RcAt.lists_lengths ⟨_, g1, rfl, k1, rfl⟩ ⟨_, g2, rfl, k2, rfl⟩ ?_ hr.units0 X.prog X.w X.xe _ ⟨.bl false, H, I, rfl, q⟩
    simp only [List.size_toArray, bne_iff_ne, ne_eq]
    rw [← r1.length, ← r2.length]
    exact hne
  · refine rc_listsB (N := XS.length) hr.units0 (fun i s' => ∃ H', Inv X pins σ H' s' ∧ H' la = some (.lst XS) ∧ H' lb = some (.lst YS) ∧ EqC X.K C sp E la lb XS YS (XS.drop i) (YS.drop i) H' fun r H' => Q (.bl r) H') (fun s' => ∃ H', Inv X pins σ H' s' ∧ Q (.bl false) H') ?_ ?_ ?_ ⟨H, I, hA, hB, q⟩
    · rintro i s1 ⟨H1, I1, a1, b1, q1⟩
      obtain ⟨z1, it1, k1, r1, g1⟩ := I1.hok la _ a1
      obtain ⟨z2, it2, k2, r2, g2⟩ := I1.hok lb _ b1
      refine ⟨it1.toArray, it2.toArray, ⟨k1, k2, g1, g2, by rw [List.size_toArray, ← r1.length], by rw [List.size_toArray, ← r2.length, hlen]⟩, fun h1 h2 => ?_⟩
      have l1 : i < XS.length := by rw [r1.length]; simpa using h1
      have l2 : i < YS.length := by rw [r2.length]; simpa using h2
      rw [List.drop_eq_getElem_cons l1, List.drop_eq_getElem_cons l2] at q1
      obtain ⟨a, b, dx, dy, vs, ws, ex, ey, sa, sb, same, diff⟩ := q1
      obtain ⟨u1, hu1, ru1⟩ := r1.get (List.getElem?_eq_getElem l1)
      obtain ⟨u2, hu2, ru2⟩ := r2.get (List.getElem?_eq_getElem l2)
      rw [ex] at ru1
      rw [ey] at ru2
      cases (show u1 = Value.ref a from ru1)
      cases (show u2 = Value.ref b from ru2)
      have w1 : it1.toArray[i] = Value.ref a := by
        have := List.getElem?_eq_some_iff.mp hu1
        obtain ⟨_, e⟩ := this
        simpa using e
      have w2 : it2.toArray[i] = Value.ref b := by
        have := List.getElem?_eq_some_iff.mp hu2
        obtain ⟨_, e⟩ := this
        simpa using e
      rw [w1, w2]
      by_cases hab : a = b
      · subst hab
        exact SeqAt.EqAt.same (A := X.A.in1) (s := s1) (.ref a) X.prog X.w X.xe _ (.inl ⟨rfl, H1, I1, a1, b1, same rfl (uq_of I1)⟩)
      · obtain ⟨sl, od, _, J, _⟩ := SlX.slt_inst I1 sa
        obtain ⟨sl', od', _, J', _⟩ := SlX.slt_inst I1 sb
        obtain ⟨mm, hF⟩ := I1.fr
        refine GQ.eqBool_refG hab (PySem.W.cmp_K (op := .Eq) (tb := .ref C) hr.in1.units0 hF I1.ok.mod.kin J J'.type (by simp [PySem.W.notFirst]) hs hf ?_)
        refine wpAny_mono (wpAny_call (SlX.run_at (us := [.ref a, .ref b]) (ws := [.ref a, .ref b]) F hr.in1 I1.env0.in1 hx I1 (.cons rfl (.cons rfl .nil)) (diff hab))) (fun w s' z => ?_) fun _ _ x => x
        obtain ⟨z', H', I', rz, c1, c2, r, ez, yes, no⟩ := z
        subst ez
        cases rz
        refine ⟨r, rfl, ?_⟩
        cases r with
        | true => exact .inl ⟨rfl, H', I', c1, c2, yes rfl⟩
        | false =>
          obtain ⟨z3, it3, k3, r3, g3⟩ := I'.hok la _ c1
          obtain ⟨z4, it4, k4, r4, g4⟩ := I'.hok lb _ c2
          exact .inr ⟨rfl, ⟨H', I', no rfl⟩, it3.toArray, it4.toArray, k3, k4, g3, g4, by rw [List.size_toArray, ← r3.length], by rw [List.size_toArray, ← r4.length, hlen]⟩
    · rintro s' ⟨H', I', _, _, q'⟩
      rw [List.drop_eq_nil_of_le (Nat.le_refl _), List.drop_eq_nil_of_le (by rw [hlen]; exact Nat.le_refl _)] at q'
      exact ⟨.bl true, H', I', rfl, q'⟩
    · rintro s' ⟨H', I', q'⟩
      exact ⟨.bl false, H', I', rfl, q'⟩
end Sm

/-! text: Sim30 -/
set_option Elab.async false
set_option linter.all false
set_option maxRecDepth 100000
set_option maxHeartbeats 2000000
namespace Sm
open PySem PySem.Spec PyProof.Rows L2
mutual
theorem rep_uni {c : Cf} {Ψ : Wd} {H : Hp} (u : Uq c.K H) (ph : ∀ a o, Ψ.fz a = some o → H a = some o) (hT : ∀ a vs, SqT c.K Ψ.fz a vs → SqT c.K H a vs) : ∀ {d e : D} {v : V} {p q : PyData}, Rep c Ψ v d → Rep c Ψ v e → d.py = some p → e.py = some q → p = q
  | _, _, _, p, q, .non, h, e1, e2 => by
    cases h
    rw [e1] at e2
    exact Option.some.inj e2
  | _, _, _, p, q, .bl b, h, e1, e2 => by
    cases h
    rw [e1] at e2
    exact Option.some.inj e2
  | _, _, _, p, q, .int i, h, e1, e2 => by
    cases h
    rw [e1] at e2
    exact Option.some.inj e2
  | _, _, _, p, q, .str x, h, e1, e2 => by
    cases h
    rw [e1] at e2
    exact Option.some.inj e2
  | _, _, _, p, q, .tup h0 l r, h, e1, e2 => by
    unfold D.py at e1
    split at e1
    · rename_i ps hps
      cases e1
      cases h with
      | tup h0' l' r' =>
        have := u.tt _ _ _ (hT _ _ h0) (hT _ _ h0')
        subst this
        unfold D.py at e2
        split at e2
        · rename_i qs hqs
          cases e2
          rw [reps_uni u ph hT r r' hps hqs]
        · cases e2
      | lst h0' l' r' =>
        exact (u.tl _ _ _ (hT _ _ h0) (ph _ _ h0')).elim
      | _ => simp [D.py] at e2
    · cases e1
  | _, _, _, p, q, .lst h0 l r, h, e1, e2 => by
    unfold D.py at e1
    split at e1
    · rename_i ps hps
      cases e1
      cases h with
      | lst h0' l' r' =>
        rw [h0] at h0'
        cases h0'
        unfold D.py at e2
        split at e2
        · rename_i qs hqs
          cases e2
          rw [reps_uni u ph hT r r' hps hqs]
        · cases e2
      | tup h0' l' r' =>
        exact (u.tl _ _ _ (hT _ _ h0') (ph _ _ h0)).elim
      | _ => simp [D.py] at e2
    · cases e1
  | _, _, _, p, q, .scr h0 l r, h, e1, e2 => by simp [D.py] at e1
  | _, _, _, p, q, .ins h0 r, h, e1, e2 => by simp [D.py] at e1
  | _, _, _, p, q, .dct h0 e r, h, e1, e2 => by simp [D.py] at e1
  | _, _, _, p, q, .obj h0, h, e1, e2 => by simp [D.py] at e1
  | _, _, _, p, q, .cls k, h, e1, e2 => by simp [D.py] at e1
  | _, _, _, p, q, .ty n, h, e1, e2 => by simp [D.py] at e1
  | _, _, _, p, q, .pt h0 hd l r, h, e1, e2 => by simp [D.py] at e1
theorem reps_uni {c : Cf} {Ψ : Wd} {H : Hp} (u : Uq c.K H) (ph : ∀ a o, Ψ.fz a = some o → H a = some o) (hT : ∀ a vs, SqT c.K Ψ.fz a vs → SqT c.K H a vs) : ∀ {ds es : List D} {vs : List V} {ps qs : List PyData}, Reps c Ψ vs ds → Reps c Ψ vs es → D.pys ds = some ps → D.pys es = some qs → ps = qs
  | _, _, _, ps, qs, .nil, h, e1, e2 => by
    cases h
    rw [e1] at e2
    exact Option.some.inj e2
  | _, _, _, ps, qs, .cons a b, h, e1, e2 => by
    cases h with
    | cons a' b' =>
      unfold D.pys at e1 e2
      split at e1
      · rename_i x xs hx hxs
        cases e1
        split at e2
        · rename_i y ys hy hys
          cases e2
          rw [rep_uni u ph hT a a' hx hy, reps_uni u ph hT b b' hxs hys]
        · cases e2
      · cases e1
end
end Sm

/-! text: Sim31 -/
set_option Elab.async false
set_option linter.all false
set_option maxRecDepth 100000
set_option maxHeartbeats 2000000
namespace Sm
open PySem PySem.Spec PyProof.Rows L2
mutual
theorem py_refl : ∀ {d : D} {p : PyData}, d.py = some p → PyData.eqv p p = true
  | .non, p, h => by simp [D.py] at h; subst h; simp [PyData.eqv]
  | .bl b, p, h => by simp [D.py] at h; subst h; simp [PyData.eqv]
  | .int i, p, h => by simp [D.py] at h; subst h; simp [PyData.eqv]
  | .str x, p, h => by simp [D.py] at h; subst h; simp [PyData.eqv]
  | .tup ds, p, h => by
    unfold D.py at h
    split at h
    · rename_i ps hps
      cases h
      simp only [PyData.eqv]
      exact pys_refl hps
    · cases h
  | .lst ds, p, h => by
    unfold D.py at h
    split at h
    · rename_i ps hps
      cases h
      simp only [PyData.eqv]
      exact pys_refl hps
    · cases h
  | .scr ds, p, h => by simp [D.py] at h
  | .ins k fs, p, h => by simp [D.py] at h
  | .dct ks, p, h => by simp [D.py] at h
  | .ref n, p, h => by simp [D.py] at h
  | .cls k, p, h => by simp [D.py] at h
  | .ty n, p, h => by simp [D.py] at h
  | .pt ds, p, h => by simp [D.py] at h
theorem pys_refl : ∀ {ds : List D} {ps : List PyData}, D.pys ds = some ps → PyData.eqvAll ps ps = true
  | [], ps, h => by simp [D.pys] at h; subst h; simp [PyData.eqvAll]
  | d :: ds, ps, h => by
    unfold D.pys at h
    split at h
    · rename_i x xs hx hxs
      cases h
      simp only [PyData.eqvAll, Bool.and_eq_true]
      exact ⟨py_refl hx, pys_refl hxs⟩
    · cases h
end
/-- == of two instances of the class k with one slot of plain data -/
def insEq (k : Nat) : D → D → Option Bool
  | .ins j [x], .ins j' [y] => if j = k ∧ j' = k then (match x.py, y.py with
    | some p, some q => if min p.depth q.depth ≤ 60 then some (PyData.eqv p q) else none
    | _, _ => none) else none
  | _, _ => none
def lstEq (k : Nat) : List D → List D → Option Bool
  | [], [] => some true
  | x :: xs, y :: ys => match insEq k x y with
    | some true => lstEq k xs ys
    | some false => some false
    | none => none
  | _, _ => none
def lstEqM (k : Nat) (x y : D) : M D := fun S => match x, y with
  | .lst xs, .lst ys => if xs.length = ys.length then (match lstEq k xs ys with
    | some b => .ok (.bl b) S
    | none => .stuck) else .ok (.bl false) S
  | _, _ => .stuck
/-- what the class's own == gives on plain data -/
def EqPlain (k : Nat) (m : List D → M D) : Prop := ∀ x y b S, insEq k x y = some b → m [x, y] S = .ok (.bl b) S
theorem eqC_of {c : Cf} {k : Nat} {m : List D → M D} {E : XK} (hm : EqPlain k m) {la lb : Addr} {XS YS : List V} {S : Sto} {Qb : Bool → Hp → Prop} : ∀ {xs ys : List D} {vs ws : List V} {Ψ : Wd} {H : Hp} {b : Bool}, Reps c Ψ vs xs → Reps c Ψ ws ys → lstEq k xs ys = some b → StoOk c Ψ H S → H la = some (.lst XS) → H lb = some (.lst YS) → ¬ Foot Ψ la → ¬ Foot Ψ lb →
    (∀ Ψ' H', Ext Ψ H Ψ' H' → StoOk c Ψ' H' S → Qb b H') → EqC c.K (c.cls k) (PromF c 2 m) E la lb XS YS vs ws H Qb
  | [], [], _, _, Ψ, H, b, .nil, .nil, e, so, hA, hB, fA, fB, q => by
    cases e
    exact q Ψ H (Ext.refl _ _) so
  | [], _ :: _, _, _, _, _, _, _, _, e, _, _, _, _, _, _ => by cases e
  | _ :: _, [], _, _, _, _, _, _, _, e, _, _, _, _, _, _ => by cases e
  | x :: xs, y :: ys, _, _, Ψ, H, b, .cons rx tx, .cons ry ty, e, so, hA, hB, fA, fB, q => by
    unfold lstEq at e
    cases hi : insEq k x y with
    | none => rw [hi] at e; cases e
    | some r =>
      rw [hi] at e
      have hmr := hm x y r S hi
      have hi' := hi
      unfold insEq at hi'
      split at hi'
      · rename_i j x0 j' y0
        split at hi'
        · rename_i hj
          obtain ⟨rfl, rfl⟩ := hj
          cases rx with
          | ins h0 r0 =>
            cases ry with
            | ins h0' r0' =>
              rename_i a dx vs0 a' dx' vs0'
              refine ⟨a, a', dx, dx', _, _, rfl, rfl, slt_phi so h0, slt_phi so h0', fun hab u => ?_, fun hab => ?_⟩
              · subst hab
                have hr : r = true := by
                  split at hi'
                  · rename_i p q hp hq
                    split at hi'
                    · cases hi'
                      cases r0 with
                      | cons rv rt =>
                        cases rt
                        cases r0' with
                        | cons rv' rt' =>
                          cases rt'
                          have ev := u.ss _ _ _ _ _ _ (slt_phi so h0) (slt_phi so h0')
                          subst ev
                          rw [rep_uni u (fun a o h => so.phi a o h) (fun a vs h => sqT_phi so h) rv rv' hp hq]
                          exact py_refl hq
                    · cases hi'
                  · cases hi'
                subst hr
                exact eqC_of hm tx ty e so hA hB fA fB q
              · refine prom_of (E := E) (ds := [.ins j' [x0], .ins j' [y0]]) (R := fun d' S' => d' = .bl r ∧ S' = S) so (.cons (.ins h0 r0) (.cons (.ins h0' r0') .nil)) ?_ fun d' S' Ψ' v H' hd x1 s1 r1 => ?_
                · show Post c E Ψ H (m [.ins j' [x0], .ins j' [y0]] S) _
                  rw [hmr]
                  exact ⟨rfl, rfl⟩
                · obtain ⟨rfl, rfl⟩ := hd
                  cases r1
                  have fr : ∀ l, ¬ Foot Ψ l → ∀ o, H l = some o → ¬ Foot Ψ' l := fun l hf o ho g => by
                    rcases x1.nmu l g with z | z
                    · exact hf z
                    · rw [ho] at z; cases z
                  refine ⟨x1.keep _ _ hA fA, x1.keep _ _ hB fB, r, rfl, fun hr => ?_, fun hr => ?_⟩
                  · subst hr
                    exact eqC_of hm (tx.mono x1.le) (ty.mono x1.le) e s1 (x1.keep _ _ hA fA) (x1.keep _ _ hB fB) (fr la fA _ hA) (fr lb fB _ hB) fun Ψ2 H2 x2 s2 => q Ψ2 H2 (x1.trans x2) s2
                  · subst hr
                    cases e
                    exact q Ψ' H' x1 s1
        · cases hi'
      · cases hi'
end Sm

/-! text: Sim32 -/
set_option Elab.async false
set_option linter.all false
set_option maxRecDepth 100000
set_option maxHeartbeats 2000000
namespace Sm
open PySem PySem.Spec PyProof.Rows L2
theorem repB_lst {c : Cf} {Ψ : Wd} {σ : L2.St} {ρ : Env} {H : Hp} {F : Nat → List Addr} {S : Sto} {v : V} {ds : List D} (so : StoOk c Ψ H S) (e : EnvOk c Ψ σ ρ H F) (r : RepB c Ψ σ ρ v (.lst ds)) : ∃ a vs, v = .ref a ∧ H a = some (.lst vs) ∧ Reps c Ψ vs ds ∧ ¬ Foot Ψ a := by
  rcases r with r | ⟨i, ds', ed, hi, hs⟩
  · cases r with
    | lst h1 l1 r1 =>
      refine ⟨_, _, rfl, so.phi _ _ h1, r1, fun f => ?_⟩
      rw [so.off _ f] at h1
      cases h1
  · cases ed
    obtain ⟨a, vs, hF, z, h3, l, h4⟩ := e.slot i _ hi
    rw [hs] at z
    cases z
    exact ⟨a, vs, rfl, h3, h4, (e.priv i a (by rw [hF]; simp)).2.1⟩
/-- a == b of two lists of instances of one class with its own == over plain data; of other lists, if they are not as long as one another -/
theorem se_eqL {c : Cf} {X : Cx} {E : XK} {a b : Expr} {ma mb : Env → M D} {g : Addr} {n k : Nat} {m : List D → M D} {pos : Pos} (ha : SB c X (cW E) a ma) (hb : SB c X (cW E) b mb) (t : Meth c.K (c.cls k) "__eq__" g) (G : Fn c X.prog X.w X.mg X.base n g 2 m) (hr : Room (n + 1) X.A) (tk : Takes X (wx (cW E))) (hp : EqPlain k m)
    (hm : behindInMarks .Eq b = false := by first | exact nomark _ (by decide) (by decide) | rfl) :
    SE c X (cW E) (.Compare a [.Eq] [b] pos) (fun ρ => bd (ma ρ) fun x => bd (mb ρ) fun y => lstEqM k x y) := by
  have G' : FnR X.prog X.w X.K X.mg X.base (L2.CX X.prog X.w) n g (PromF c 2 m) := by rw [ha.k]; exact G.r
  refine ⟨ha.k, PE.imp (pe_cmpR (op_listO (C := c.cls k) (by rw [ha.k]; exact t.at_) (by rw [ha.k]; exact t.fn) G' hr (passes_wx tk)) ha.p hb.p hm) fun σ H Q ⟨Ψ, ρ, S, F, so, eo, q⟩ => ⟨Ψ, ρ, S, F, so, eo, q.bd.mono fun x S1 q1 Ψ1 v H1 x1 s1 r1 => ?_⟩⟩
  refine ⟨Ψ1, ρ, S1, F, s1, eo.ext x1, (Post.bd (Post.ext x1 q1)).mono fun y S2 q2 Ψ2 u H2 x2 s2 r2 => ?_⟩
  have x12 := x1.trans x2
  have eo2 := eo.ext x12
  unfold lstEqM at q2
  split at q2
  · rename_i xs ys
    obtain ⟨la, XS, rfl, hA, rA, fA⟩ := repB_lst s2 eo2 (r1.mono x2.le)
    obtain ⟨lb, YS, rfl, hB, rB, fB⟩ := repB_lst s2 eo2 r2
    refine ⟨la, lb, XS, YS, rfl, rfl, hA, hB, ?_⟩
    split at q2
    · rename_i hlen
      split at q2
      · rename_i bb hbb
        refine .inr ⟨by rw [rA.length, rB.length, hlen], ?_⟩
        rw [ha.k]
        exact eqC_of hp rA rB hbb s2 hA hB fA fB fun Ψ3 H3 x3 s3 => q2 Ψ3 _ H3 (x12.trans x3) s3 (.bl _)
      · exact q2.elim
    · rename_i hlen
      exact .inl ⟨by rw [rA.length, rB.length]; exact hlen, q2 Ψ2 _ H2 x12 s2 (.bl _)⟩
  · exact q2.elim
end Sm

/-! text: Sim33 -/
set_option Elab.async false
set_option linter.all false
set_option maxRecDepth 100000
set_option maxHeartbeats 2000000
namespace Sm
open PySem PySem.Spec PyProof.Rows L2
section
variable {c : Cf} {X : Cx} {W : XK} {mi mi1 : Env → M (List D)} {mt mt1 : Env → M Bool} {me : Env → M D} {t t1 : Tg} {elt tg iter tg1 iter1 : Expr} {ifs ifs1 : List Expr} {scope : Scope} {own : List (Str × Nat)} {vs1 : List Nat} {pos py spos : Pos} {i : Nat} {y : Str}
/-- name = [e for .. for ..] on one line -/
theorem ss_setLc2 (hi : SIC c X (cW W) tg iter mi) (hN : X.N.Nodup) (ok : BlkOk X.N X.env.scope scope own) (hv : ∀ i ∈ t.is, i ∈ own.map (·.2)) (hv1 : ∀ i ∈ t1.is, i ∈ vs1) (hvv : ∀ i ∈ vs1, i ∈ own.map (·.2))
    (hg : ∀ (s : Shared) (H : Hp) (C : Addr) (cl : List (Str × Addr)) (fp : List Addr), SG (X.blk s H scope (compEnvC scope cl C X.env) fp) tg t) (ht : ∀ (s : Shared) (H : Hp) (C : Addr) (cl : List (Str × Addr)) (fp : List Addr), STs c (X.blk s H scope (compEnvC scope cl C X.env) fp) WF ifs mt)
    (hi1 : ∀ (s : Shared) (H : Hp) (C : Addr) (cl : List (Str × Addr)) (fp : List Addr), SI c (X.blk s H scope (compEnvC scope cl C X.env) fp) WF tg1 iter1 mi1)
    (hg1 : ∀ (s : Shared) (H : Hp) (C : Addr) (cl : List (Str × Addr)) (fp : List Addr), SG (X.blk s H scope (compEnvC scope cl C X.env) fp) tg1 t1) (ht1 : ∀ (s : Shared) (H : Hp) (C : Addr) (cl : List (Str × Addr)) (fp : List Addr), STs c (X.blk s H scope (compEnvC scope cl C X.env) fp) WF ifs1 mt1)
    (he : ∀ (s : Shared) (H : Hp) (C : Addr) (cl : List (Str × Addr)) (fp : List Addr), SE c (X.blk s H scope (compEnvC scope cl C X.env) fp) WF elt me) (hy : X.N[i]? = some y := by rfl) (hyl : X.env.scope.names.lookup y = some .local := by rfl)
    (hk : X.env.scope.kind = .function := by rfl) (hl : (py.line == pos.line) = true := by rfl) (ha : (scope.names.any fun (n, k) => n == y && (k == .local || k == .cell)) = false := by rfl)
    (hc : X.calm = true := by rfl) (hs : ∀ x, foldedSetIterable iter X.env x = pure x := by intro _; rfl) (hs1 : ∀ env x, foldedSetIterable iter1 env x = pure x := by intro _ _; rfl) :
    SS c X W (.Assign [.Name y py] (.ListComp elt [⟨tg, iter, ifs, 0⟩, ⟨tg1, iter1, ifs1, 0⟩] scope pos) spos) (fun ρ => bd (bd (mi ρ) fun ds => noX (few ds (fitM (lc2M (fun d => bindD t d (wipeE ρ (own.map (·.2)))) mt mi1 (fun ρ d => bindD t1 d (wipeE ρ vs1)) mt1 me ds)))) fun ds => rt (.nx (ρ.set i (.own ds)))) :=
  ⟨hi.k, PS.imp (ps_setLc2 hc hN hy hyl (sw_true hk hyl hl ha) hi.p ok hvv (fun s H C cl fp => hi.k ▸ (hg s H C cl fp).p) (fun s H C cl fp => (ht s H C cl fp).p) (fun s H C cl fp => (hi1 s H C cl fp).p) (fun s H C cl fp => hi.k ▸ (hg1 s H C cl fp).p) (fun s H C cl fp => (ht1 s H C cl fp).p) (fun s H C cl fp => (he s H C cl fp).p) hs hs1) fun D σ H ⟨B, Ψ, ρ, S, F, g, q⟩ =>
    lc2_r (W := cW W) hv hv1 ⟨Ψ, ρ, S, F, g.so, g.eo, (q.bd.ext g.x).mono fun ds S1 q1 Ψ1 a vs H1 x1 s1 h1 l1 r1 p1 f1 n1 => by
      obtain ⟨F', g'⟩ := g.setN i x1 s1 h1 l1 r1 p1 f1 n1
      exact q1 Ψ1 _ H1 F' g'⟩⟩
end
end Sm

/-! text: Sim34 -/
set_option Elab.async false
set_option linter.all false
set_option maxRecDepth 100000
set_option maxHeartbeats 2000000
namespace Sm
open PySem PySem.Spec PyProof.Rows L2
/-! != and == of lists of which nothing but the length counts -/
def neLen : D → D → Sto → Option D := fun a b _ => match a, b with
  | .lst xs, .lst ys => if xs.length = ys.length then (if xs.length = 0 then some (.bl false) else none) else some (.bl true)
  | _, _ => none
def eqLen : D → D → Sto → Option D := fun a b _ => match a, b with
  | .lst xs, .lst ys => if xs.length = ys.length then (if xs.length = 0 then some (.bl true) else none) else some (.bl false)
  | _, _ => none
def rLen (x1 x2 : Bool) : R2 := fun x y H Q => ∃ la lb XS YS, x = .ref la ∧ y = .ref lb ∧ H la = some (.lst XS) ∧ H lb = some (.lst YS) ∧ ((XS.length ≠ YS.length ∧ Q (.bl x1) H) ∨ (XS.length = 0 ∧ YS.length = 0 ∧ Q (.bl x2) H))
theorem op_neLen {X : Cx} (hu : X.A.units < cLine) : OpR X (compareOp .NotEq) (rLen true false) := by
  intro pins s σ H x y v u Q I rx ry h
  obtain ⟨la, lb, XS, YS, rfl, rfl, hA, hB, q⟩ := h
  cases (show v = Value.ref la from rx)
  cases (show u = Value.ref lb from ry)
  show wpAny _ _ (richCompare .NotEq (.ref la) (.ref lb)) _ _ _
  obtain ⟨z1, it1, k1, r1, g1⟩ := I.hok la _ hA
  obtain ⟨z2, it2, k2, r2, g2⟩ := I.hok lb _ hB
  rcases q with ⟨hne, q⟩ | ⟨h1, h2, q⟩
  · refine SeqAt.RcNeAt.lists_lengths ⟨_, g1, rfl, k1, rfl⟩ ⟨_, g2, rfl, k2, rfl⟩ ?_ hu X.prog X.w X.xe _ ⟨.bl true, H, I, rfl, q⟩
    simp only [List.size_toArray, bne_iff_ne, ne_eq]
    rw [← r1.length, ← r2.length]
    exact hne
  · have e1 : it1.toArray.size = 0 := by rw [List.size_toArray, ← r1.length, h1]
    have e2 : it2.toArray.size = 0 := by rw [List.size_toArray, ← r2.length, h2]
    have go := SeqAt.RcNeAt.lists (A := X.A) (s := s) (e := fun _ => true) ⟨_, g1, rfl, k1, rfl⟩ ⟨_, g2, rfl, k2, rfl⟩ (by rw [e1, e2]) hu (fun j a b => by omega)
    refine go X.prog X.w X.xe _ ?_
    rw [e1]
    exact ⟨.bl false, H, I, rfl, q⟩
theorem op_eqLen {X : Cx} (hu : X.A.units < cLine) : OpR X (compareOp .Eq) (rLen false true) := by
  intro pins s σ H x y v u Q I rx ry h
  obtain ⟨la, lb, XS, YS, rfl, rfl, hA, hB, q⟩ := h
  cases (show v = Value.ref la from rx)
  cases (show u = Value.ref lb from ry)
  show wpAny _ _ (richCompare .Eq (.ref la) (.ref lb)) _ _ _
  obtain ⟨z1, it1, k1, r1, g1⟩ := I.hok la _ hA
  obtain ⟨z2, it2, k2, r2, g2⟩ := I.hok lb _ hB
  rcases q with ⟨hne, q⟩ | ⟨h1, h2, q⟩
  · refine SeqAt.RcAt.lists_lengths ⟨_, g1, rfl, k1, rfl⟩ ⟨_, g2, rfl, k2, rfl⟩ ?_ hu X.prog X.w X.xe _ ⟨.bl false, H, I, rfl, q⟩
    simp only [List.size_toArray, bne_iff_ne, ne_eq]
    rw [← r1.length, ← r2.length]
    exact hne
  · have e1 : it1.toArray.size = 0 := by rw [List.size_toArray, ← r1.length, h1]
    have e2 : it2.toArray.size = 0 := by rw [List.size_toArray, ← r2.length, h2]
    have go := SeqAt.RcAt.lists (A := X.A) (s := s) (e := fun _ => true) ⟨_, g1, rfl, k1, rfl⟩ ⟨_, g2, rfl, k2, rfl⟩ (by rw [e1, e2]) hu (fun j a b => by omega)
    refine go X.prog X.w X.xe _ ?_
    rw [e1]
    exact ⟨.bl true, H, I, rfl, q⟩
theorem v2_len {c : Cf} {f : D → D → Sto → Option D} {x1 x2 : Bool} (hf : ∀ a b S d, f a b S = some d → ∃ xs ys, a = .lst xs ∧ b = .lst ys ∧ ((xs.length ≠ ys.length ∧ d = .bl x1) ∨ (xs.length = 0 ∧ ys.length = 0 ∧ d = .bl x2))) : V2 c (rLen x1 x2) f := by
  intro Ψ H S x y a b d Q s ra rb e q
  obtain ⟨xs, ys, rfl, rfl, hd⟩ := hf _ _ _ _ e
  obtain ⟨la, XS, rfl, hA, l1, rA⟩ := ra.lst s
  obtain ⟨lb, YS, rfl, hB, l2, rB⟩ := rb.lst s
  refine ⟨la, lb, XS, YS, rfl, rfl, hA, hB, ?_⟩
  rcases hd with ⟨h, rfl⟩ | ⟨h1, h2, rfl⟩
  · exact .inl ⟨by rw [rA.length, rB.length]; exact h, fin0 s q (.bl _)⟩
  · exact .inr ⟨by rw [rA.length]; exact h1, by rw [rB.length]; exact h2, fin0 s q (.bl _)⟩
theorem v2_neLen {c : Cf} : V2 c (rLen true false) neLen := v2_len fun a b S d e => by
  unfold neLen at e
  split at e
  · rename_i xs ys
    refine ⟨xs, ys, rfl, rfl, ?_⟩
    split at e
    · rename_i h
      split at e
      · rename_i h0
        cases e
        exact .inr ⟨h0, h ▸ h0, rfl⟩
      · cases e
    · rename_i h
      cases e
      exact .inl ⟨h, rfl⟩
  · cases e
theorem v2_eqLen {c : Cf} : V2 c (rLen false true) eqLen := v2_len fun a b S d e => by
  unfold eqLen at e
  split at e
  · rename_i xs ys
    refine ⟨xs, ys, rfl, rfl, ?_⟩
    split at e
    · rename_i h
      split at e
      · rename_i h0
        cases e
        exact .inr ⟨h0, h ▸ h0, rfl⟩
      · cases e
    · rename_i h
      cases e
      exact .inl ⟨h, rfl⟩
  · cases e
end Sm

/-! text: Sim35 -/
set_option Elab.async false
set_option linter.all false
set_option maxRecDepth 100000
set_option maxHeartbeats 2000000
namespace Sm
open PySem PySem.Spec PyProof.Rows L2
/-! ### tuples of which it is known that they have no dict: t.index(x) -/
mutual
def strip : D → D
  | .tup ds => .tup (strips ds)
  | .lst ds => .lst (strips ds)
  | .pt ds => .tup (strips ds)
  | d => d
def strips : List D → List D
  | [] => []
  | d :: ds => strip d :: strips ds
end
theorem pt_sqT {c : Cf} {Ψ : Wd} {a : Addr} {o : Obj} {vs : List V} (h : Ψ.fz a = some (.frz o (.tup vs))) : SqT c.K Ψ.fz a vs := .inl (.inr ⟨o, h⟩)
mutual
theorem Rep.strip {c : Cf} {Ψ : Wd} : ∀ {d : D} {v : V}, Rep c Ψ v d → Rep c Ψ v (Sm.strip d)
  | _, _, .non => .non
  | _, _, .bl b => .bl b
  | _, _, .int i => .int i
  | _, _, .str x => .str x
  | _, _, .tup h l r => .tup h l (Reps.strips r)
  | _, _, .lst h l r => .lst h l (Reps.strips r)
  | _, _, .scr h l r => .scr h l r
  | _, _, .ins h r => .ins h r
  | _, _, .dct h e r => .dct h e r
  | _, _, .obj h => .obj h
  | _, _, .cls k => .cls k
  | _, _, .ty n => .ty n
  | _, _, .pt h hd l r => .tup (pt_sqT h) l (Reps.strips r)
theorem Reps.strips {c : Cf} {Ψ : Wd} : ∀ {ds : List D} {vs : List V}, Reps c Ψ vs ds → Reps c Ψ vs (Sm.strips ds)
  | _, _, .nil => .nil
  | _, _, .cons a b => .cons (Rep.strip a) (Reps.strips b)
end
def stripM (m : M D) : M D := bd m fun d => rt (strip d)
section
variable {c : Cf} {X : Cx} {W : L2.St → XK} {e a b : Expr} {es : List Expr} {pos : Pos} {m ma mb : Env → M D}
theorem se_strip (h : SE c X W e m) : SE c X W e (fun ρ => stripM (m ρ)) := by
  refine ⟨h.k, PE.imp h.p fun σ H Q ⟨Ψ, ρ, S, F, so, eo, q⟩ => ⟨Ψ, ρ, S, F, so, eo, ?_⟩⟩
  have q' := q.bd
  exact q'.mono fun d S1 q1 Ψ1 v H1 e1 so1 r1 => q1 Ψ1 v H1 e1 so1 r1.strip
/-- a written tuple -/
def tTupP (t : TA) : TE := fun σ H Q => t σ H fun xs H1 => xs.length ≤ sizeLine ∧ ∀ p o, o.dict = none → H1 p = none → Q (.ref p) (upd H1 p (.frz o (.tup xs)))
theorem pe_tupP {x1} {t : TA} (h : PA X es t) : PE X (.Tuple es x1 pos) (tTupP t) := by
  refine ⟨fun pins s σ H Q I hq => ?_⟩
  refine wpAny_Tuple_spliced (thn (h.run pos pins s σ H _ I hq) fun us s1 ⟨xs, H1, I1, r, z, q⟩ => ⟨by rw [← r.length]; exact z, ?_⟩)
  have hf : H1 s1.heap.objs.size = none := I1.hok.fresh (Nat.le_refl _)
  refine ⟨.ref s1.heap.objs.size, upd H1 s1.heap.objs.size (.frz { cls := .type "tuple", data := .seq us.toArray } (.tup xs)), I1.laid (t' := s1.toks) (fun b u e => Heap.get?_push_of_some _ e) (Nat.le_refl _) ?_, rfl, q _ _ rfl hf⟩
  exact ⟨Heap.get?_push_size _ rfl, z, us, r, ⟨_, Heap.get?_push_size _ rfl, rfl, _, rfl⟩⟩
def tupP (m : M (List D)) : M D := bd m fun ds => fun S => if ds.length ≤ LIM then .ok (.pt ds) S else .stuck
theorem finP {c : Cf} {Ψ : Wd} {H : Hp} {S : Sto} {ds : List D} {vs : List V} {Q : VK} {p : Addr} {o : Obj} (ho : o.dict = none) (s : StoOk c Ψ H S) (q : ∀ Ψ' v H', Ext Ψ H Ψ' H' → StoOk c Ψ' H' S → Rep c Ψ' v (.pt ds) → Q v H') (l : vs.length ≤ LIM) (r : Reps c Ψ vs ds) (hp : H p = none) : Q (.ref p) (upd H p (.frz o (.tup vs))) :=
  q _ _ _ (Ext.new hp (s.phiNone hp)) (s.new hp) (.pt upd_same ho l (r.mono (Le.know (s.phiNone hp))))
theorem se_tupP {m : Env → M (List D)} {x1} (h : SA c X W es m) : SE c X W (.Tuple es x1 pos) (fun ρ => tupP (m ρ)) := by
  refine ⟨h.k, PE.imp (pe_tupP h.p) fun σ H Q ⟨Ψ, ρ, S, F, so, eo, q⟩ => ⟨Ψ, ρ, S, F, so, eo, q.bd.mono fun ds S1 q1 Ψ1 vs H1 e1 so1 r1 => ?_⟩⟩
  split at q1
  · exact ⟨lim_of (by rw [r1.length]; assumption), fun p o ho hp => finP ho so1 (fun Ψ' v H' e2 so2 r2 => q1 Ψ' v H' (e1.trans e2) so2 r2) (by rw [r1.length]; assumption) r1 hp⟩
  · exact q1.elim
/-- t + u -/
def rCatP (K : PySem.W.Frag) : R2 := fun x y H Q => ∃ a b xs ys, x = .ref a ∧ y = .ref b ∧ SqT K H a xs ∧ SqT K H b ys ∧ xs.length + ys.length ≤ sizeLine ∧ ys ≠ [] ∧
  (xs = [] → Q (.ref b) H) ∧ (xs ≠ [] → ∀ p o, o.dict = none → H p = none → Q (.ref p) (upd H p (.frz o (.tup (xs ++ ys)))))
theorem op_catP : OpR X (binaryOp .Add) (rCatP X.K) := by
  intro pins s σ H x y v u Q I rx ry h
  obtain ⟨a, b, xs, ys, rfl, rfl, ha, hb, hz, hy, q1, q2⟩ := h
  cases rx
  cases ry
  obtain ⟨its, r1, p1, _⟩ := I.tuple ha
  obtain ⟨its2, r2, p2, _⟩ := I.tuple hb
  by_cases hx : xs = []
  · have : its = [] := r1.nil_iff.mpr hx
    subst this
    exact cat_tup0 p1 p2 ⟨.ref b, H, I, rfl, q1 hx⟩
  · refine HT.cat_tup p1 p2 (fun z => hx (r1.nil_iff.mp z)) (fun z => absurd (r2.nil_iff.mp z) hy) (fun z => ?_) (by rw [← r1.length, ← r2.length]; exact hz)
    refine ⟨.ref s.heap.objs.size, _, I.laid (t' := s.toks) (o := .frz { cls := .type "tuple", data := .seq (its ++ its2).toArray } (.tup (xs ++ ys))) (fun b ob q => Heap.get?_push_of_some _ q) (Nat.le_refl _) ?_, rfl, q2 hx _ _ rfl (I.hok.fresh (Nat.le_refl _))⟩
    exact ⟨Heap.get?_push_size _ rfl, by rw [List.length_append]; exact hz, _, r1.append r2, IsTup.new _ _⟩
def addP : D → D → Sto → Option D := fun a b _ => match a, b with
  | .tup i, .pt j => if i.length + j.length ≤ LIM ∧ j ≠ [] then some (.pt (i ++ j)) else none
  | _, _ => none
theorem v2_addP {c : Cf} : V2 c (rCatP c.K) addP := by
  intro Ψ H S x y a b d Q s ra rb e q
  unfold addP at e
  split at e
  · rename_i i j
    split at e
    · rename_i hh
      cases e
      obtain ⟨a1, vs, rfl, h1, _, r1⟩ := ra.tup s
      have rb' := rb.rep fun _ z => by cases z
      cases rb' with
      | pt h2 hd l2 r2 =>
        rename_i a2 o ws
        refine ⟨a1, a2, vs, ws, rfl, rfl, h1, .inl (.inr ⟨o, s.phi _ _ h2⟩), lim_of (by rw [r1.length, r2.length]; exact hh.1), fun z => hh.2 (r2.nil_iff.mp z), fun z => ?_, fun _ p ob ho hp => finP ho s q (by rw [List.length_append, r1.length, r2.length]; exact hh.1) (r1.app r2) hp⟩
        have z' := r1.nil_iff.mp z
        subst z'
        exact fin0 s q (.pt h2 hd l2 r2)
    · cases e
  · cases e
theorem se_addP (ha : SB c X W a ma) (hb : SB c X W b mb) : SE c X W (.BinOp a .Add b pos) (fun ρ => o2 addP (ma ρ) (mb ρ)) := se_op op_catP (ha.k ▸ v2_addP) ha hb
end
/-! t.index(x) -/
section
variable {X : Cx}
def tBMP (r : V → List V → Hp → VK → Prop) (to : TE) (t : TA) : TE := fun σ H Q => to σ H fun x H1 => (∃ a o vs, x = .ref a ∧ H1 a = some (.frz o (.tup vs)) ∧ o.dict = none) ∧ t σ H1 fun xs H2 => r x xs H2 Q
theorem pe_bmP {o e : Expr} {es : List Expr} {to : TE} {t : TA} {name : Str} {apos cpos : Pos} {id : String} {r : V → List V → Hp → VK → Prop} (pa : PlainAttrs "tuple") (slot : PySem.Slot "tuple" name id) (hty : typeOf (.builtin id) = pure (.type "method_descriptor")) (hm : MtR X id r) (ho : PE X o to) (ha : PA X (e :: es) t)
    (hbase : attributeBase o name X.env (eval o X.env) = eval o X.env)
    (hfew : ((backTo cpos (starEach (e :: es) X.env)).all (fun x => !x.1) && (backToKw cpos (keywordEach [] X.env)).all (fun x => x.1.isSome)
      && decide ((e :: es).length + ([] : List Keyword).length + (if ([] : List Keyword).isEmpty then 0 else 1) < 30)) = true)
    (hline : (apos.endLine == cpos.line) = true) (hs : starEach (e :: es) X.env = (false, eval e X.env) :: starEach es X.env) (hplain : (backTo cpos (starEach es X.env)).any (·.1) = false) :
    PE X (.Call (.Attribute o name apos) (e :: es) [] cpos) (tBMP r to t) := by
  refine ⟨fun pins s σ H Q I h => ?_⟩
  refine wpAny_Call_method_late hbase hfew hline rfl (thn (ho.run pins s σ H _ I h) fun v s1 ⟨x, H1, I1, r1, ty, q1⟩ => ?_)
  obtain ⟨a, ob, vs, rfl, hk, hd⟩ := ty
  cases r1
  obtain ⟨g1, _, its, _, g2⟩ := I1.hok a _ hk
  obtain ⟨ob', g3, g4, _⟩ := g2
  rw [g1] at g3
  cases g3
  refine ⟨"tuple", id, pa, slot, hty, ⟨ob, g1, g4⟩, fun b e => ?_, ?_⟩
  · cases e
    exact ⟨ob, g1, hd⟩
  have hA := ha.run cpos pins s1 σ H1 _ I1 q1
  rw [hs] at hA ⊢
  refine Calls.callWith_builtin (by show (false || (backTo cpos (starEach es X.env)).any (·.1)) = false; rw [hplain] <;> rfl) (Calls.evalArgs_plain ?_)
  exact thn hA fun us s2 ⟨vs, H2, I2, r2, q2⟩ => hm pins s2 σ H2 (.ref a) vs (.ref a) us Q I2 rfl r2 q2
def rIndexT (K : PySem.W.Frag) : V → List V → Hp → VK → Prop := fun x xs H Q => ∃ (a : Addr) (y : V) (d : PyData) (ds : List PyData) (j : Nat), x = V.ref a ∧ xs = [y] ∧ Dp K H (V.ref a) (.tuple ds) ∧ Dp K H y d ∧
  PyData.plainAll ds = true ∧ d.plain = true ∧ min (PyData.depthAll ds) d.depth ≤ 60 ∧ idxE ds d = some j ∧ Q (.int (j : Nat)) H
theorem mt_indexT (hu : X.A.units + 64 < cLine) : MtR X "tuple.index" (rIndexT X.K) := by
  intro pins s σ H x xs v us Q I rx rxs h
  obtain ⟨a, y, d, ds, j, rfl, rfl, hl, hy, sl, sd, hm, hj0, q⟩ := h
  obtain ⟨z, hz, hzj, hno⟩ := idxE_some hj0
  cases rx
  cases rxs with
  | cons ry rt =>
    rename_i uy ut
    cases rt
    obtain ⟨bs, r1⟩ := Dp.reads I d y uy hy ry
    cases hl with
    | tup hs ha =>
      obtain ⟨its, rv, ⟨⟨cls, dd, data, sls⟩, ho, hc, n, hdt⟩, hlen⟩ := I.tuple hs
      simp only at hc hdt
      subst hc hdt
      obtain ⟨as, h4⟩ := Dp.readsAll I ds _ its ha rv
      have hmap : its.map (SeqAt.readOf s.heap) = ds := SeqAt.readsAll_map_plain ds its as sl h4
      have hn : its.length = ds.length := by rw [← hmap, List.length_map]
      have hvl := rv.length
      obtain ⟨hjd, _⟩ := List.getElem?_eq_some_iff.mp hz
      have hjl : j < its.length := by omega
      have hj : j < its.toArray.size := by simpa using hjl
      have at_ : ∀ (m : Nat) (hm : m < its.toArray.size) (z' : PyData), ds[m]? = some z' → SeqAt.readOf s.heap its.toArray[m] = z' := by
        intro m hm z' hz'
        have hml : m < its.length := by simpa using hm
        rw [← hmap, List.getElem?_map, List.getElem?_eq_getElem hml] at hz'
        have e1 : SeqAt.readOf s.heap its[m] = z' := Option.some.inj (show some (SeqAt.readOf s.heap its[m]) = some z' from hz')
        simpa using e1
      refine call_meets PySem.F.slot_tuple_index ⟨_, ho, rfl⟩ PySem.F.entry_tuple_index (PySem.F.args_tuple_index_2 _ _)
        (TI.tuple_indexAt a its.toArray n dd sls uy (fun u => PyData.eqv (SeqAt.readOf s.heap u) d) j hj ?_ ?_) ⟨ho, SeqAt.items_plain (vs := its.toArray) (show ReadsAll s.heap its.toArray.toList ds as from h4) r1 sl sd (by omega), ?_⟩
      · show PyData.eqv (SeqAt.readOf s.heap its.toArray[j]) d = true
        rw [at_ j hj z hz]
        exact hzj
      · intro m hm hmj
        have hml : m < its.length := by simpa using hm
        have hmd : m < ds.length := by omega
        have hz' : ds[m]? = some ds[m] := List.getElem?_eq_getElem hmd
        show PyData.eqv (SeqAt.readOf s.heap its.toArray[m]) d = false
        rw [at_ m hm _ hz']
        exact hno m _ hmj hz'
      · exact ⟨.int (j : Nat), H, I.tok _, ⟨_, rfl⟩, q⟩
end
def asP (d : D) : M (List D) := fun S => match d with
  | .pt ds => .ok ds S
  | _ => .stuck
def idxP (o m : M D) : M D := bd o fun d => bd (asP d) fun ds => bd m fun y => opt (idxD (.tup ds) y)
section
variable {c : Cf} {X : Cx} {WW : L2.St → XK} {apos cpos : Pos} {e o : Expr} {mo me : Env → M D}
theorem se_indexP (ho : SE c X WW o mo) (h : SE c X WW e me) (hu : X.A.units + 64 < cLine) (hbase : attributeBase o "index" X.env (eval o X.env) = eval o X.env := by rfl)
    (hfew : ((backTo cpos (starEach [e] X.env)).all (fun x => !x.1) && (backToKw cpos (keywordEach [] X.env)).all (fun x => x.1.isSome)
      && decide ([e].length + ([] : List Keyword).length + (if ([] : List Keyword).isEmpty then 0 else 1) < 30)) = true := by rfl)
    (hline : (apos.endLine == cpos.line) = true := by rfl) (hs : starEach [e] X.env = (false, eval e X.env) :: starEach [] X.env := by rfl) (hplain : (backTo cpos (starEach [] X.env)).any (·.1) = false := by rfl) :
    SE c X WW (.Call (.Attribute o "index" apos) [e] [] cpos) (fun ρ => idxP (mo ρ) (me ρ)) := by
  refine ⟨h.k, PE.imp (pe_bmP PySem.F.plainAttrs_tuple PySem.F.slot_tuple_index PySem.F.type_tuple_index (mt_indexT hu) ho.p (pa_cons h.p pa_nil hs) hbase hfew hline hs hplain) fun σ H Q ⟨Ψ, ρ, S, F, so, eo, q⟩ => ⟨Ψ, ρ, S, F, so, eo, q.bd.mono fun d S1 q1 Ψ1 v H1 x1 s1 r1 => ?_⟩⟩
  have q2 := q1.bd
  unfold asP at q2
  split at q2
  · rename_i ds
    cases r1 with
    | pt h0 hd l0 r0 =>
      rename_i a0 ob vs
      have q2' : Post c (WW σ) Ψ H (bd (me ρ) (fun y => opt (idxD (.tup ds) y)) S1) _ := q2
      refine ⟨⟨a0, ob, vs, rfl, s1.phi _ _ h0, hd⟩, Ψ1, ρ, S1, F, s1, eo.ext x1, (Post.ext x1 q2').bd.mono fun y S2 q3 Ψ2 yv H2 x2 s2 r2 => ?_⟩
      unfold opt at q3
      split at q3
      · rename_i dd hdd
        unfold idxD at hdd
        split at hdd
        · rename_i ys py h1 h2
          unfold D.py at h1
          split at h1 <;> cases h1
        · rename_i ys py h1 h2
          split at hdd
          · rename_i hm
            cases hj : idxE ys py with
            | none => rw [hj] at hdd; cases hdd
            | some jj =>
              rw [hj] at hdd
              cases hdd
              have rt1 : Rep c Ψ2 (.ref a0) (.tup ds) := .tup (pt_sqT (x2.le.phi _ _ h0)) l0 (r0.mono x2.le)
              have e1 := RepH.dp s2 (.inl rt1) h1
              have e2 : Dp c.K H2 yv py := RepH.dp s2 (.inl r2) h2
              have pl1 := D.plain h1
              refine ⟨a0, yv, py, ys, jj, rfl, rfl, h.k ▸ e1, h.k ▸ e2, pl1, D.plain h2, hm, hj, ?_⟩
              exact q3 Ψ2 _ H2 (x1.trans x2) s2 (.int _)
          · cases hdd
        · cases hdd
      · exact q3.elim
  · exact q2.elim
end
end Sm

/-! text: Sim36 -/
set_option Elab.async false
set_option linter.all false
set_option maxRecDepth 100000
set_option maxHeartbeats 2000000
namespace PySem.W
section
variable {prog : Program} {w : World} {A : Around} {E : Value → Shared → Prop} {s : Shared} {K : Frag} {x C f : Addr} {ox : Obj} {od : Option Obj} {b tb : Value}
theorem ifBound_ne {M : Model} {args : List Value} {Q : Option Value → Shared → Prop} (X : K.In s.heap) (I : InstAt s.heap x ox C od) (hs : findIn K (.ref C) "__ne__" = some (some (.builtin "object.__ne__")))
    (h : wpAny M A (call (.builtin "object.__ne__") (.ref x :: args)) (fun v => Q (some v)) E s) : wpAny M A (callSpecialIfBound? (.ref x) "__ne__" args) Q E s := by
  simp only [callSpecialIfBound?, bindSpecialIfBound?]
  refine wpAny_holding (wpAny_bind (wpAny_bind (wpAny_bind (I.type.here ((looks_findIn X hs).here ?_)))))
  simp only [PySem.F.slot_object_ne.bind]
  refine wpAny_bind (wpAny_askSetting (wpAny_ite ?_))
  have fin : wpAny M A (call (.builtin "object.__ne__") ([.ref x] ++ args) >>= fun v => pure (some v)) Q E s := wpAny_bind (wpAny_mono h (fun v s' h' => wpAny_pure h') fun _ _ h' => h')
  split
  · exact wpAny_bind (wpAny_pure (wpAny_pure fin))
  · exact wpAny_tryCatch (wpAny_bind (wpAny_pure (wpAny_pure fin)))
theorem objNe_K (hu : A.units < cLine) (X : K.In s.heap) (I : InstAt s.heap x ox C od) (hs : findIn K (.ref C) "__eq__" = some (some (.ref f))) (hf : isFn K (.ref f) = true) {Q : Fin → Shared → Prop}
    (h : codeAny (model prog w) A (.call (.ref f) ⟨[.ref x, b], []⟩) (fun r s' => match r with | .ok (.ret v) => ∃ r, v = .bool r ∧ Q (.done (.ret (.bool (!r)))) s' | .ok _ => False | .error e => E e s') s) :
    wpAny (model prog w) A (Builtin.«object.__ne__» ⟨[.ref x, b], []⟩) Q E s := by
  unfold Builtin.«object.__ne__»
  repeat (first | with_reducible refine wpAny_cRoomFor hu ?_ | with_reducible refine ifBound_K X I hs hf ?_ | wp_step)
  refine codeAny_mono h fun r s' hv => ?_
  cases r with
  | error e => exact hv
  | ok fl =>
    cases fl with
    | ret v =>
      obtain ⟨r, rfl, hq⟩ := hv
      dsimp only
      repeat (first | wp_step)
      exact hq
    | next => exact False.elim hv
    | brk => exact False.elim hv
    | cont => exact False.elim hv
theorem ne_K {Q : Value → Shared → Prop} (hu : A.units + 1 < cLine) (X : K.In s.heap) (I : InstAt s.heap x ox C od) (hb : Looks (model prog w) s.heap (typeOf b) tb) (hn : notFirst K C tb = true)
    (hN : findIn K (.ref C) "__ne__" = some (some (.builtin "object.__ne__"))) (hp : plainOver K C = true)
    (hs : findIn K (.ref C) "__eq__" = some (some (.ref f))) (hf : isFn K (.ref f) = true)
    (h : codeAny (model prog w) A.in1 (.call (.ref f) ⟨[.ref x, b], []⟩) (fun r s' => match r with | .ok (.ret v) => ∃ r, v = .bool r ∧ Q (.bool (!r)) s' | .ok _ => False | .error e => E e s') s) : wpAny (model prog w) A (richCompare .NotEq (.ref x) b) Q E s := by
  have hu0 : A.units < cLine := Nat.lt_of_succ_lt hu
  have hm : ∃ cd, clsIn K C = some cd ∧ onlyObject cd.mro = true := any_some hp
  obtain ⟨cd, hc, ho⟩ := hm
  have ne : cd.mro.isEmpty = false := by cases q : cd.mro with | nil => rw [q] at ho; cases ho | cons _ _ => rfl
  have sub : Looks (model prog w) s.heap (isInstance (.ref x) (.type "object")) true := I.type.andThen (looks_mroIn X (by unfold mroIn; rw [hc, Option.bind_some, if_neg (by rw [ne]; decide), only_has ho]))
  have one : wpAny (model prog w) A (tryCompare (.ref x) "__ne__" b) (fun r s' => ∃ v, r = some v ∧ Q v s') E s := by
    simp only [tryCompare]
    refine wpAny_bind (ifBound_ne X I hN (wpAny_call (codeAny_call_builtin PySem.F.slot_object_ne.plain PySem.F.entry_object_ne
      (@check_slot (model prog w) _ _ s "object.__ne__" "object" "__ne__" (.ref x) [b] [] _ PySem.F.cmpKind_ne PySem.F.cmpSplit_ne sub (PySem.F.args_object_ne_2 _ _)
        (objNe_K (A := A.in1) hu X I hs hf (codeAny_mono h fun r s' hv => ?_))))))
    cases r with
    | error e => exact hv
    | ok fl =>
      cases fl with
      | ret v =>
        obtain ⟨r, rfl, hq⟩ := hv
        exact ⟨r, rfl, wpAny_pure ⟨_, rfl, hq⟩⟩
      | next => exact False.elim hv
      | brk => exact False.elim hv
      | cont => exact False.elim hv
  unfold richCompare
  simp only [cmpInfo_NotEq, oneThing_ref]
  refine wpAny_holding (wpAny_bind (wpAny_cRoomFor hu0 ?_))
  refine wpAny_bind (I.type.here (wpAny_bind (hb.here ?_)))
  split
  · rename_i q
    have e : subIn K tb (.ref C) = some false := by
      rcases Bool.or_eq_true_iff.mp hn with e | e
      · rw [beq_iff_eq.mp e] at q; simp at q
      · exact beq_iff_eq.mp e
    refine wpAny_bind ((looks_subIn X e).here ?_)
    simp only [Bool.false_eq_true, if_false]
    refine wpAny_bind (wpAny_mono one (fun r s' z => ?_) fun _ _ e => e)
    obtain ⟨v, rfl, hq⟩ := z
    exact wpAny_pure hq
  · refine wpAny_bind (wpAny_pure ?_)
    simp only [Bool.false_eq_true, if_false]
    refine wpAny_bind (wpAny_mono one (fun r s' z => ?_) fun _ _ e => e)
    obtain ⟨v, rfl, hq⟩ := z
    exact wpAny_pure hq
end
end PySem.W
namespace Sm
open PySem PySem.Spec PyProof.Rows L2
section
variable {X : Cx} {CX : CXT} {C g : Addr} {n : Nat} {sp : Sp} {E : XK}
/-- x != y by the own __eq__ of x -/
def rOwnN (K : PySem.W.Frag) (C : Addr) (sp : Sp) (E : XK) : R2 := fun x y H Q => ∃ a dx vs b C' dy ws, x = .ref a ∧ y = .ref b ∧ SlX.Slt H a C dx vs ∧ SlX.Slt H b C' dy ws ∧ PySem.W.notFirst K C (.ref C') = true ∧
  sp [x, y] H (fun v H' => ∃ r, v = .bl r ∧ Q (.bl (!r)) H') E
theorem op_ownN (hN : PySem.W.findIn X.K (.ref C) "__ne__" = some (some (.builtin "object.__ne__"))) (hp : PySem.W.plainOver X.K C = true) (hs : PySem.W.findIn X.K (.ref C) "__eq__" = some (some (.ref g))) (hf : PySem.W.isFn X.K (.ref g) = true)
    (F : FnR X.prog X.w X.K X.mg X.base CX n g sp) (hr : Room (n + 1) X.A) (hu : X.A.units + 1 < cLine) (hx : Passes CX X E) : OpR X (compareOp .NotEq) (rOwnN X.K C sp E) := by
  intro pins s σ H x y v u Q I rx ry h
  obtain ⟨a, dx, vs, b, C', dy, ws, rfl, rfl, ha, hb, hn, q⟩ := h
  cases (show v = Value.ref a from rx)
  cases (show u = Value.ref b from ry)
  obtain ⟨sl, od, _, J, _⟩ := SlX.slt_inst I ha
  obtain ⟨sl', od', _, J', _⟩ := SlX.slt_inst I hb
  refine PySem.W.ne_K (tb := .ref C') hu I.kIn J J'.type hn hN hp hs hf ?_
  refine codeAny_mono (F X.A.in1 X.stack s H [.ref a, .ref b] [.ref a, .ref b] _ E hr.in1 I.env0.in1 (.cons rfl (.cons rfl .nil)) q) fun r s' hq => ?_
  cases r with
  | error e => exact hx pins σ H s e s' I hq
  | ok fl =>
    cases fl with
    | ret u =>
      obtain ⟨z, H', I', rz, r, rfl, qz⟩ := I.after hq
      cases (show u = Value.bool r from rz)
      exact ⟨r, rfl, .bl (!r), H', I', rfl, qz⟩
    | next => exact False.elim hq
    | brk => exact False.elim hq
    | cont => exact False.elim hq
end
end Sm

/-! text: Sim37 -/
set_option Elab.async false
set_option linter.all false
set_option maxRecDepth 100000
set_option maxHeartbeats 2000000
namespace Sm
open PySem PySem.SeqAt
open AutoSeq1 (wpAny_loadPart')
open MeetsSeq MeetsSeq2 MeetsSeq3 SeqRoads2
section
variable {prog : Program} {w : World} {A : Around} {R : Result → Shared → Prop}
theorem loopN (l b : Addr) (N : Nat) (I : Nat → Shared → Prop) (J : Shared → Prop) (ht : Turns prog w A (fun e s' => R (.error e) s') l b N I J)
    (yes : ∀ s, I N s → R (.ok (.ret (.bool false))) s) (no : ∀ s, J s → R (.ok (.ret (.bool true))) s) : ∀ (k i : Nat), N - i = k → i ≤ N → ∀ s, I i s →
      wpAny (model prog w) A.in1 (Builtin.«list.__eq__.loop» ⟨[.ref l, .ref b, rawInt i, rawInt 3], []⟩) (GQ.FinOf prog w A R) (fun e s' => R (.error e) s') s := by
  intro k
  induction k with
  | zero =>
    intro i hk hi s hI
    obtain ⟨us, vs, ⟨n, n2, gl, gb, e1, e2⟩, _⟩ := ht _ _ hI
    have hN : i = N := by omega
    have fin : R (.ok (.ret (.bool false))) s := yes s (hN ▸ hI)
    have m1 : us[((i : Nat) : Int).toNat]? = none := by simp; omega
    have m2 : vs[((i : Nat) : Int).toNat]? = none := by simp; omega
    obtain ⟨sh, sg, sd, st, so⟩ := s
    wp_walk using wpAny_loadPart' gl, wpAny_loadPart' gb
    rw [m1, m2]
    wp_walk using wpAny_loadPart' gl, wpAny_loadPart' gb
    show R (.ok (.ret (.bool (us.size != vs.size)))) _
    rw [e1, e2]
    simpa using fin
  | succ k ih =>
    intro i hk hi s hI
    obtain ⟨us, vs, ⟨n, n2, gl, gb, e1, e2⟩, turn⟩ := ht _ _ hI
    have t := turn (by omega) (by omega)
    have m1 : us[((i : Nat) : Int).toNat]? = some (us[i]'(by omega)) := by
      rw [Int.toNat_natCast]; exact Array.getElem?_eq_getElem (by omega)
    have m2 : vs[((i : Nat) : Int).toNat]? = some (vs[i]'(by omega)) := by
      rw [Int.toNat_natCast]; exact Array.getElem?_eq_getElem (by omega)
    obtain ⟨sh, sg, sd, st, so⟩ := s
    wp_walk using wpAny_loadPart' gl, wpAny_loadPart' gb
    rw [m1, m2]
    refine wpAny_bind (wpAny_mono t (fun r s3 q => ?_) fun _ _ z => z)
    rcases q with ⟨rfl, q⟩ | ⟨rfl, q, us', vs', k1, k2, gl', gb', e1', e2'⟩
    · have rec_ := ih (i + 1) (by omega) (by omega) s3 q
      have step : ((i : Int) + 1) = ((i + 1 : Nat) : Int) := by omega
      obtain ⟨sh3, sg3, sd3, st3, so3⟩ := s3
      wp_walk
      rw [step]
      exact ⟨plainId_quiet plain_eq_loop _, codeAny_builtin entry_eq_loop (by rw [Around.under_plainId plain_eq_loop _]; exact rec_)⟩
    · have out := no s3 q
      have m3 : us'[((i : Nat) : Int).toNat]? = some (us'[i]'(by omega)) := by
        rw [Int.toNat_natCast]; exact Array.getElem?_eq_getElem (by omega)
      have m4 : vs'[((i : Nat) : Int).toNat]? = some (vs'[i]'(by omega)) := by
        rw [Int.toNat_natCast]; exact Array.getElem?_eq_getElem (by omega)
      obtain ⟨sh3, sg3, sd3, st3, so3⟩ := s3
      wp_walk using wpAny_loadPart' gl', wpAny_loadPart' gb'
      rw [m3, m4]
      wp_walk
      exact out
end
end Sm
namespace Sm
open PySem PySem.Spec PyProof.Rows L2
/-- == of two lists as long as one another, turn by turn -/
theorem rc_listsN {prog : Program} {w : World} {A : Around} {E : Value → Shared → Prop} {s : Shared} {l b : Addr} {N : Nat} {Q : Value → Shared → Prop} (hu : A.units < cLine) (I : Nat → Shared → Prop) (J : Shared → Prop) (ht : Turns prog w A E l b N I J)
    (yes : ∀ s, I N s → Q (.bool false) s) (no : ∀ s, J s → Q (.bool true) s) (h : I 0 s) : wpAny (model prog w) A (richCompare .NotEq (.ref l) (.ref b)) Q E s := by
  obtain ⟨us, vs, ⟨n, n2, gl, gb, e1, e2⟩, _⟩ := ht _ _ h
  refine wpAny_richCompare_same_room (op := .NotEq) ⟨_, gl, rfl⟩ ⟨_, gb, rfl⟩ F.slot_list_ne (GQ.call_here F.slot_list_ne ⟨_, gl, rfl⟩ F.entry_list_ne (F.args_list_ne_2 _ _) ?_) hu
  have go := loopN (A := A) (R := wants (fun v s' => v ≠ .notImplemented ∧ Q v s') E) l b N I J ht (fun s' q => ⟨(fun x => nomatch x), yes s' q⟩) (fun s' q => ⟨(fun x => nomatch x), no s' q⟩) _ 0 rfl (Nat.zero_le _) s h
  have ne : ¬ (us.size != vs.size) = true := by simp [e1, e2]
  have sub := AutoSeq1.sub_list_list
  obtain ⟨sh, sg, sd, st, so⟩ := s
  wp_walk using AutoSeq1.wpAny_loadPart' gl, AutoSeq1.wpAny_loadPart' gb
  exact ⟨plainId_quiet MeetsSeq3.plain_eq_loop _, codeAny_builtin MeetsSeq3.entry_eq_loop (by rw [Around.under_plainId MeetsSeq3.plain_eq_loop _]; exact go)⟩
def rListN (K : PySem.W.Frag) (C : Addr) (sp : Sp) (E : XK) : R2 := fun x y H Q => ∃ la lb XS YS, x = .ref la ∧ y = .ref lb ∧ H la = some (.lst XS) ∧ H lb = some (.lst YS) ∧
  ((XS.length ≠ YS.length ∧ Q (.bl true) H) ∨ (XS.length = YS.length ∧ EqC K C sp E la lb XS YS XS YS H fun r H' => Q (.bl (!r)) H'))
theorem op_listN {X : Cx} {CX : CXT} {C g : Addr} {n : Nat} {sp : Sp} {E : XK} (hs : PySem.W.findIn X.K (.ref C) "__eq__" = some (some (.ref g))) (hf : PySem.W.isFn X.K (.ref g) = true) (F : FnR X.prog X.w X.K X.mg X.base CX n g sp) (hr : Room (n + 1) X.A) (hx : Passes CX X E) : OpR X (compareOp .NotEq) (rListN X.K C sp E) := by
  intro pins s σ H x y v u Q I rx ry h
  obtain ⟨la, lb, XS, YS, rfl, rfl, hA, hB, q⟩ := h
  cases (show v = Value.ref la from rx)
  cases (show u = Value.ref lb from ry)
  show wpAny _ _ (richCompare .NotEq (.ref la) (.ref lb)) _ _ _
  rcases q with ⟨hne, q⟩ | ⟨hlen, q⟩
  · obtain ⟨z1, it1, k1, r1, g1⟩ := I.hok la _ hA
    obtain ⟨z2, it2, k2, r2, g2⟩ := I.hok lb _ hB
    refine SeqAt.RcNeAt.lists_lengths ⟨_, g1, rfl, k1, rfl⟩ ⟨_, g2, rfl, k2, rfl⟩ ?_ hr.units0 X.prog X.w X.xe _ ⟨.bl true, H, I, rfl, q⟩
    simp only [List.size_toArray, bne_iff_ne, ne_eq]
    rw [← r1.length, ← r2.length]
    exact hne
  · refine rc_listsN (N := XS.length) hr.units0 (fun i s' => ∃ H', Inv X pins σ H' s' ∧ H' la = some (.lst XS) ∧ H' lb = some (.lst YS) ∧ EqC X.K C sp E la lb XS YS (XS.drop i) (YS.drop i) H' fun r H' => Q (.bl (!r)) H') (fun s' => ∃ H', Inv X pins σ H' s' ∧ Q (.bl true) H') ?_ ?_ ?_ ⟨H, I, hA, hB, q⟩
    · rintro i s1 ⟨H1, I1, a1, b1, q1⟩
      obtain ⟨z1, it1, k1, r1, g1⟩ := I1.hok la _ a1
      obtain ⟨z2, it2, k2, r2, g2⟩ := I1.hok lb _ b1
      refine ⟨it1.toArray, it2.toArray, ⟨k1, k2, g1, g2, by rw [List.size_toArray, ← r1.length], by rw [List.size_toArray, ← r2.length, hlen]⟩, fun h1 h2 => ?_⟩
      have l1 : i < XS.length := by rw [r1.length]; simpa using h1
      have l2 : i < YS.length := by rw [r2.length]; simpa using h2
      rw [List.drop_eq_getElem_cons l1, List.drop_eq_getElem_cons l2] at q1
      obtain ⟨a, b, dx, dy, vs, ws, ex, ey, sa, sb, same, diff⟩ := q1
      obtain ⟨u1, hu1, ru1⟩ := r1.get (List.getElem?_eq_getElem l1)
      obtain ⟨u2, hu2, ru2⟩ := r2.get (List.getElem?_eq_getElem l2)
      rw [ex] at ru1
      rw [ey] at ru2
      cases (show u1 = Value.ref a from ru1)
      cases (show u2 = Value.ref b from ru2)
      have w1 : it1.toArray[i] = Value.ref a := by
        have := List.getElem?_eq_some_iff.mp hu1
        obtain ⟨_, e⟩ := this
        simpa using e
      have w2 : it2.toArray[i] = Value.ref b := by
        have := List.getElem?_eq_some_iff.mp hu2
        obtain ⟨_, e⟩ := this
        simpa using e
      rw [w1, w2]
      by_cases hab : a = b
      · subst hab
        exact SeqAt.EqAt.same (A := X.A.in1) (s := s1) (.ref a) X.prog X.w X.xe _ (.inl ⟨rfl, H1, I1, a1, b1, same rfl (uq_of I1)⟩)
      · obtain ⟨sl, od, _, J, _⟩ := SlX.slt_inst I1 sa
        obtain ⟨sl', od', _, J', _⟩ := SlX.slt_inst I1 sb
        obtain ⟨mm, hF⟩ := I1.fr
        refine GQ.eqBool_refG hab (PySem.W.cmp_K (op := .Eq) (tb := .ref C) hr.in1.units0 hF I1.ok.mod.kin J J'.type (by simp [PySem.W.notFirst]) hs hf ?_)
        refine wpAny_mono (wpAny_call (SlX.run_at (us := [.ref a, .ref b]) (ws := [.ref a, .ref b]) F hr.in1 I1.env0.in1 hx I1 (.cons rfl (.cons rfl .nil)) (diff hab))) (fun w s' z => ?_) fun _ _ x => x
        obtain ⟨z', H', I', rz, c1, c2, r, ez, yes, no⟩ := z
        subst ez
        cases rz
        refine ⟨r, rfl, ?_⟩
        cases r with
        | true => exact .inl ⟨rfl, H', I', c1, c2, yes rfl⟩
        | false =>
          obtain ⟨z3, it3, k3, r3, g3⟩ := I'.hok la _ c1
          obtain ⟨z4, it4, k4, r4, g4⟩ := I'.hok lb _ c2
          exact .inr ⟨rfl, ⟨H', I', no rfl⟩, it3.toArray, it4.toArray, k3, k4, g3, g4, by rw [List.size_toArray, ← r3.length], by rw [List.size_toArray, ← r4.length, hlen]⟩
    · rintro s' ⟨H', I', _, _, q'⟩
      rw [List.drop_eq_nil_of_le (Nat.le_refl _), List.drop_eq_nil_of_le (by rw [hlen]; exact Nat.le_refl _)] at q'
      exact ⟨.bl false, H', I', rfl, q'⟩
    · rintro s' ⟨H', I', q'⟩
      exact ⟨.bl true, H', I', rfl, q'⟩
end Sm

/-! text: Sim38 -/
set_option Elab.async false
set_option linter.all false
set_option maxRecDepth 100000
set_option maxHeartbeats 2000000
namespace Sm
open PySem PySem.Spec PyProof.Rows L2
/-! == and != of an instance of a known class and any other instance; the call of an instance -/
theorem CF.nf {c : Cf} {n : Nat} (C : CF c n) {k j : Nat} (hk : k < n) (hj : j < n) : PySem.W.notFirst c.K (c.cls k) (.ref (c.cls j)) = true := by
  have h := C.kt j k hj hk
  unfold PySem.W.kitOne at h
  unfold PySem.W.notFirst
  split at h
  · rename_i e
    rw [e]
    rfl
  · unfold PySem.W.kitCls at h
    dsimp only at h
    split at h
    · by_cases hjk : j = k
      · subst hjk
        rename_i hne _
        exact absurd (by simp) hne
      · rw [decide_eq_false hjk] at h
        rw [h]
        simp
    · cases h
def anyM (n : Nat) (d : D) : M D := fun S => match d with
  | .ins j fs => if j < n then .ok (.ins j fs) S else .stuck
  | _ => .stuck
section
variable {c : Cf} {X : Cx} {E : XK} {a b : Expr} {ma mb : Env → M D} {g : Addr} {n nn k : Nat} {m : List D → M D} {pos : Pos}
theorem se_eqA (C : CF c nn) (hk : k < nn) (ha : SE c X (cW E) a ma) (hb : SE c X (cW E) b mb) (t : Meth c.K (c.cls k) "__eq__" g) (G : Fn c X.prog X.w X.mg X.base n g 2 m) (hr : Room n X.A) (tk : Takes X (wx (cW E)))
    (hm : behindInMarks .Eq b = false := by first | exact nomark _ (by decide) (by decide) | rfl) :
    SE c X (cW E) (.Compare a [.Eq] [b] pos) (fun ρ => bd (ma ρ) fun x => bd (mb ρ) fun y => bd (insM k x) fun x => bd (anyM nn y) fun y => callM 2 m [x, y]) := by
  have G' : FnR X.prog X.w X.K X.mg X.base (L2.CX X.prog X.w) n g (PromF c 2 m) := by rw [ha.k]; exact G.r
  refine ⟨ha.k, PE.imp (pe_cmpR (SlX.op_own (op := .Eq) (C := c.cls k) (fun _ _ => rfl) (by rw [ha.k]; exact t.at_) (by rw [ha.k]; exact t.fn) G' hr (passes_wx tk)) ha.p hb.p hm) fun σ H Q ⟨Ψ, ρ, S, F, so, eo, q⟩ => ⟨Ψ, ρ, S, F, so, eo, q.bd.mono fun x S1 q1 Ψ1 v H1 x1 s1 r1 => ?_⟩⟩
  refine ⟨Ψ1, ρ, S1, F, s1, eo.ext x1, (Post.bd (Post.ext x1 q1)).mono fun y S2 q2 Ψ2 u H2 x2 s2 r2 => ?_⟩
  have q3 := q2.bd
  unfold insM at q3
  split at q3
  · split at q3
    · rename_i _ fs _ ek _
      subst ek
      have q4 := (show Post c (cW E σ) Ψ1 H1 (bd (anyM nn y) (fun y => callM 2 m [.ins _ fs, y]) S2) _ from q3).bd
      unfold anyM at q4
      split at q4
      · split at q4
        · rename_i j gs hj
          have q5 : Post c E Ψ1 H1 (callM 2 m [.ins _ fs, .ins _ gs] S2) _ := q4
          cases r1 with
          | ins h0 r0 =>
            cases r2 with
            | ins h0' r0' =>
              have h0k := x2.le.slt h0
              refine ⟨_, _, _, _, _, _, _, rfl, rfl, slt_phi s2 h0k, slt_phi s2 h0', by rw [ha.k]; exact C.nf hk hj, ?_⟩
              exact prom_of (E := E) (ds := [.ins _ fs, .ins _ gs]) s2 (.cons (.ins h0k (r0.mono x2.le)) (.cons (.ins h0' r0') .nil)) (q5.ext x2) fun d' S' Ψ' v H' q6 e2 s3 r3 => q6 Ψ' v H' ((x1.trans x2).trans e2) s3 r3
        · exact q4.elim
      · exact q4.elim
    · exact q3.elim
  · exact q3.elim
theorem se_neA (C : CF c nn) (hk : k < nn) (hN : PySem.W.findIn c.K (.ref (c.cls k)) "__ne__" = some (some (.builtin "object.__ne__"))) (ha : SE c X (cW E) a ma) (hb : SE c X (cW E) b mb) (t : Meth c.K (c.cls k) "__eq__" g) (G : Fn c X.prog X.w X.mg X.base n g 2 m) (hr : Room (n + 1) X.A) (hu : X.A.units + 1 < cLine) (tk : Takes X (wx (cW E)))
    (hm : behindInMarks .NotEq b = false := by first | exact nomark _ (by decide) (by decide) | rfl) :
    SE c X (cW E) (.Compare a [.NotEq] [b] pos) (fun ρ => bd (ma ρ) fun x => bd (mb ρ) fun y => bd (insM k x) fun x => bd (anyM nn y) fun y => bd (callM 2 m [x, y]) fun d => bd (asB d) fun t => rt (.bl (!t))) := by
  have G' : FnR X.prog X.w X.K X.mg X.base (L2.CX X.prog X.w) n g (PromF c 2 m) := by rw [ha.k]; exact G.r
  refine ⟨ha.k, PE.imp (pe_cmpR (op_ownN (C := c.cls k) (by rw [ha.k]; exact hN) (by rw [ha.k]; exact (C.sc k hk).po) (by rw [ha.k]; exact t.at_) (by rw [ha.k]; exact t.fn) G' hr hu (passes_wx tk)) ha.p hb.p hm) fun σ H Q ⟨Ψ, ρ, S, F, so, eo, q⟩ => ⟨Ψ, ρ, S, F, so, eo, q.bd.mono fun x S1 q1 Ψ1 v H1 x1 s1 r1 => ?_⟩⟩
  refine ⟨Ψ1, ρ, S1, F, s1, eo.ext x1, (Post.bd (Post.ext x1 q1)).mono fun y S2 q2 Ψ2 u H2 x2 s2 r2 => ?_⟩
  have q3 := q2.bd
  unfold insM at q3
  split at q3
  · split at q3
    · rename_i _ fs _ ek _
      subst ek
      have q4 := (show Post c (cW E σ) Ψ1 H1 (bd (anyM nn y) (fun y => bd (callM 2 m [.ins _ fs, y]) fun d => bd (asB d) fun t => rt (D.bl (!t))) S2) _ from q3).bd
      unfold anyM at q4
      split at q4
      · split at q4
        · rename_i j gs hj
          have q5 := (show Post c E Ψ1 H1 (bd (callM 2 m [.ins _ fs, .ins _ gs]) (fun d => bd (asB d) fun t => rt (D.bl (!t))) S2) _ from q4)
          cases r1 with
          | ins h0 r0 =>
            cases r2 with
            | ins h0' r0' =>
              have h0k := x2.le.slt h0
              refine ⟨_, _, _, _, _, _, _, rfl, rfl, slt_phi s2 h0k, slt_phi s2 h0', by rw [ha.k]; exact C.nf hk hj, ?_⟩
              refine prom_of (E := E) (ds := [.ins _ fs, .ins _ gs]) s2 (.cons (.ins h0k (r0.mono x2.le)) (.cons (.ins h0' r0') .nil)) (q5.ext x2).bd fun d' S' Ψ' v H' q6 e2 s3 r3 => ?_
              have q7 := q6.bd
              unfold asB at q7
              split at q7
              · cases r3
                exact ⟨_, rfl, q7 Ψ' _ H' ((x1.trans x2).trans e2) s3 (.bl _)⟩
              · exact q7.elim
        · exact q4.elim
      · exact q4.elim
    · exact q3.elim
  · exact q3.elim
end
/-- x(..), x an instance -/
theorem se_callO {c : Cf} {X : Cx} {E : XK} {fe e : Expr} {es : List Expr} {mf : Env → M D} {ms : Env → M (List D)} {g : Addr} {k n K1 : Nat} {m : List D → M D} {pos : Pos} (hf : SE c X (cW E) fe mf) (ha : SA c X (cW E) (e :: es) ms) (t : ∃ g', StX.CallO c.K (c.cls k) g') (tm : Meth c.K (c.cls k) "__call__" g) (G : Fn c X.prog X.w X.mg X.base K1 g n m) (hr : Room K1 X.A) (tk : Takes X (wx (cW E)))
    (ht : eval (.Call fe (e :: es) [] pos) X.env = (do callWith pos (← eval fe X.env) [] (backTo pos (starEach (e :: es) X.env)) (backToKw pos (keywordEach [] X.env))) := by rfl)
    (he : starEach (e :: es) X.env = (false, eval e X.env) :: starEach es X.env := by rfl) (hpl : (backTo pos (starEach es X.env)).any (·.1) = false := by rfl) :
    SE c X (cW E) (.Call fe (e :: es) [] pos) (fun ρ => bd (mf ρ) fun d => bd (insM k d) fun d => bd (ms ρ) fun ds => callM n m (d :: ds)) := by
  have G' : FnR X.prog X.w X.K X.mg X.base (L2.CX X.prog X.w) K1 g (PromF c n m) := by rw [hf.k]; exact G.r
  obtain ⟨g', tc⟩ := t
  have eg : g' = g := by
    have := tc.at_.symm.trans tm.at_
    simpa using this
  subst eg
  refine ⟨hf.k, PE.imp (StX.pe_callO hf.p (hf.k ▸ tc) G' hr (passes_wx tk) ha.p ht he hpl) fun σ H Q ⟨Ψ, ρ, S, F, so, eo, q⟩ => ⟨Ψ, ρ, S, F, so, eo, q.bd.mono fun d S1 q1 Ψ1 v H1 x1 s1 r1 => ?_⟩⟩
  have q2 := q1.bd
  unfold insM at q2
  split at q2
  · split at q2
    · rename_i _ fs _ ek _
      subst ek
      have q3 : Post c E Ψ H (bd (ms ρ) (fun ds => callM n m (.ins _ fs :: ds)) S1) _ := q2
      cases r1 with
      | ins h0 r0 =>
        rename_i a dx vs0
        refine ⟨a, rfl, Ψ1, ρ, S1, F, s1, eo.ext x1, (Post.ext x1 q3).bd.mono fun ds S2 q4 Ψ2 vs H2 x2 s2 r2 => ?_⟩
        have h0k := x2.le.slt h0
        refine ⟨.inl ⟨_, _, slt_phi s2 h0k⟩, ?_⟩
        exact prom_of (E := E) (ds := .ins _ fs :: ds) s2 (.cons (.ins h0k (r0.mono x2.le)) r2) (q4.ext x2) fun d' S' Ψ' v H' q6 e2 s3 r3 => q6 Ψ' v H' ((x1.trans x2).trans e2) s3 r3
    · exact q2.elim
  · exact q2.elim
end Sm

/-! text: Sim39 -/
set_option Elab.async false
set_option linter.all false
set_option maxRecDepth 100000
set_option maxHeartbeats 2000000
namespace Sm
open PySem PySem.Spec PyProof.Rows L2
/-! a list that is handed out, and changed where it is handed in -/
def newS (ds : List D) : M D := fun S => .ok (.ref S.length) (S ++ [.lst ds])
theorem se_newS {c : Cf} {X : Cx} {W : L2.St → XK} {e : Expr} {m : Env → M (List D)} (h : SN c X W e m) : SE c X W e (fun ρ => bd (m ρ) newS) := by
  refine ⟨h.k, PE.imp h.p fun σ H Q ⟨Ψ, ρ, S, F, so, eo, q⟩ => ⟨Ψ, ρ, S, F, so, eo, q.bd.mono fun ds S1 q1 Ψ1 a vs H1 x1 s1 h1 l1 r1 p1 f1 n1 => ?_⟩⟩
  refine q1 (Ψ1.share a) (.ref a) H1 (x1.share n1) (s1.share h1 p1 f1 l1 r1) (.obj (n := S1.length) (p := (a, a)) ?_)
  show (Ψ1.sh ++ [(a, a)])[S1.length]? = _
  rw [← s1.len, List.getElem?_append_right (Nat.le_refl _), Nat.sub_self]
  rfl
def drD (d : D) (S : Sto) : D := match d with
  | .ref n => match S[n]? with
    | some (.lst ds) => .lst ds
    | _ => .ref n
  | d => d
theorem dr_rep {c : Cf} {Ψ : Wd} {H : Hp} {S : Sto} {v : V} {d : D} (s : StoOk c Ψ H S) (r : RepH c Ψ H v d) : RepH c Ψ H v (drD d S) := by
  unfold drD
  split
  · rename_i n
    split
    · rename_i ds hd
      obtain ⟨p, h1, rfl, h2⟩ := r.ref s hd
      obtain ⟨vs, h3, h4, h5, h6⟩ := h2
      exact .inr ⟨p.1, vs, ds, rfl, rfl, h3, h5, h6⟩
    · exact r
  · exact r
theorem v2_dr {c : Cf} {r : R2} {f : D → D → Sto → Option D} (h : V2 c r f) : V2 c r (fun a b S => f (drD a S) (drD b S) S) := fun Ψ H S x y a b d Q s ra rb e q => h Ψ H S x y _ _ d Q s (dr_rep s ra) (dr_rep s rb) e q
/-- x.append(e), x a list handed in -/
def refAt (ρ : Env) (i : Nat) : M Nat := fun S => match ρ[i]? with
  | some (.val (.ref n)) => (match S[n]? with
    | some (.lst _) => .ok n S
    | _ => .stuck)
  | _ => .stuck
def appR (n : Nat) (d : D) (ρ : Env) : M Out := fun S => match S[n]? with
  | some (.lst ds) => if ds.length < LIM then .ok (.nx ρ) (S.set n (.lst (ds ++ [d]))) else .stuck
  | _ => .stuck
section
variable {c : Cf} {X : Cx} {W : XK} {e : Expr} {x : Str} {i : Nat} {pos apos cpos : Pos}
theorem ss_appendR {m : Env → M D} {px : Pos} (h : SE c X (cW W) e m) (hN : X.N[i]? = some x := by rfl) (hv : Vis X.env.scope x := by first | exact Or.inl rfl | exact Or.inr (Or.inl rfl) | exact Or.inr (Or.inr rfl)) (hd : (x == ("__debug__" : Str)) = false := by decide)
    (hcd : (x == ("__classdict__" : Str)) = false := by decide) (hbase : attributeBase (.Name x px) "append" X.env (eval (.Name x px) X.env) = eval (.Name x px) X.env := by rfl)
    (hfew : ((backTo cpos (starEach [e] X.env)).all (fun x => !x.1) && (backToKw cpos (keywordEach [] X.env)).all (fun x => x.1.isSome)
      && decide ([e].length + ([] : List Keyword).length + (if ([] : List Keyword).isEmpty then 0 else 1) < 30)) = true := by rfl)
    (hline : (apos.endLine == cpos.line) = true := by rfl) (hs : starEach [e] X.env = (false, eval e X.env) :: starEach [] X.env := by rfl) (hplain : (backTo cpos (starEach [] X.env)).any (·.1) = false := by rfl)
    (hsw : swapsWith (.Call (.Attribute (.Name x px) "append" apos) [e] [] cpos) none pos.line X.env = pure false := by rfl) :
    SS c X W (.Expr (.Call (.Attribute (.Name x px) "append" apos) [e] [] cpos) pos) (fun ρ => bd (refAt ρ i) fun n => bd (m ρ) fun d => appR n d ρ) := by
  refine ⟨h.k, PS.imp (ps_expr (pe_bm PySem.F.plainAttrs_list PySem.F.slot_list_append PySem.F.type_list_append mt_append (pe_var hN hv hd hcd) (pa_cons h.p pa_nil hs) hbase hfew hline hs hplain) hsw) fun D σ H ⟨B, Ψ, ρ, S, F, g, q⟩ => ?_⟩
  have q2 := q.bd
  unfold refAt at q2
  split at q2
  · rename_i n hs
    split at q2
    · rename_i ds0 hd0
      obtain ⟨_, w, e1, e2⟩ := g.eo.slot i _ hs
      cases e2 with
      | obj hp =>
        rename_i p
        obtain ⟨p', h3, vs, h4, h5, h6, h7⟩ := g.so.obj n _ hd0
        rw [hp] at h3; cases h3
        have q3 : Post c W B.wd B.H (bd (m ρ) (fun d => appR n d ρ) S) _ := q2
        refine ⟨.ref p.1, e1, .inl ⟨rfl, vs, SqL.of h4⟩, Ψ, ρ, S, F, g.so, g.eo, (q3.bd.ext g.x).mono fun d S1 q1 Ψ1 v H1 x1 s1 r1 => ?_⟩
        have hp1 := x1.le.mu _ _ hp
        unfold appR at q1
        split at q1
        · rename_i ds hd
          split at q1
          · rename_i hl
            obtain ⟨p', h3, vs', h4', h5', h6', h7'⟩ := s1.obj n _ hd
            rw [hp1] at h3; cases h3
            refine ⟨p.1, vs', v, rfl, rfl, h4', lim_lt (by rw [h7'.length]; exact hl), ?_⟩
            have xx : Ext Ψ1 H1 Ψ1 _ := Ext.updO (o := .lst (vs' ++ [v])) hp1 (by rw [h4']; exact fun z => nomatch z)
            exact q1 Ψ1 σ _ F ((g.ext x1 s1).ext xx (s1.updO hp1 hd (by rw [List.length_append, h7'.length]; exact hl) (h7'.app (.cons r1 .nil))))
          · exact q1.elim
        · exact q1.elim
    · exact q2.elim
  · exact q2.elim
end
/-- tuple(range(n)) -/
def tupRgM (a : M D) : M D := bd a fun y => fun S => match y with
  | .int j => if 0 ≤ j ∧ j ≤ 100000 then .ok (.tup (rng 0 j.toNat)) S else .stuck
  | _ => .stuck
theorem se_tupRg {c : Cf} {X : Cx} {WW : L2.St → XK} {a : Expr} {p p2 pos cpos : Pos} {ma : Env → M D} (ha : SE c X WW a ma) (hml : X.mg "tuple" = none) (hmr : X.mg "range" = none) (hgl : Gl X "tuple" := by rfl) (hgr : Gl X "range" := by rfl) (hc : X.calm = true := by rfl)
    (na : starEach [.Call (.Name "range" p) [a] [] p2] X.env = (false, eval (.Call (.Name "range" p) [a] [] p2) X.env) :: starEach [] X.env := by rfl) (nb : starEach [a] X.env = (false, eval a X.env) :: starEach [] X.env := by rfl) :
    SE c X WW (.Call (.Name "tuple" pos) [.Call (.Name "range" p) [a] [] p2] [] cpos) (fun ρ => tupRgM (ma ρ)) := by
  refine ⟨ha.k, PE.imp (pe_tupRg hc hgl hml (prg_1 hgr hmr ha.p nb) na) fun σ H Q ⟨Ψ, ρ, S, F, so, eo, q⟩ => ⟨Ψ, ρ, S, F, so, eo, q.bd.mono fun y S1 q1 Ψ1 v H1 x1 s1 r1 => ?_⟩⟩
  split at q1
  · split at q1
    · rename_i jj hj
      cases r1
      refine ⟨jj, rfl, RgOk.of_le (by omega) (by omega) (by omega) hj.1, fun t ht => ?_⟩
      have hlen : (rgV 0 jj).length ≤ LIM := by
        rw [rgV_length]
        show _ ≤ 100000
        omega
      refine finT s1 (fun Ψ' v H' e2 so2 r2 => q1 Ψ' v H' (x1.trans e2) so2 r2) hlen ?_ ht
      unfold rgV rng
      have e1 : (jj - 0).toNat = jj.toNat := by rw [Int.sub_zero]
      rw [e1]
      have key : ∀ l : List Nat, Reps c Ψ1 (l.map fun (i : Nat) => V.int (0 + (i : Nat))) (l.map fun (i : Nat) => D.int (0 + (i : Nat))) := fun l => by
        induction l with
        | nil => exact .nil
        | cons i l ih => exact .cons (.int _) ih
      exact key _
    · exact q1.elim
  · exact q1.elim
end Sm

/-! text: Sim40 -/
set_option Elab.async false
set_option linter.all false
set_option maxRecDepth 100000
set_option maxHeartbeats 2000000
namespace Sm
open PySem PySem.Spec PyProof.Rows L2
/-! != of lists of instances that may lie in the store -/
/-- both can be read, N items each -/
def TwoH (la lb : Addr) (N : Nat) (H : Hp) (XS YS : List V) : Prop := H la = some (.lst XS) ∧ H lb = some (.lst YS) ∧ XS.length = N ∧ YS.length = N
def EqS (K : PySem.W.Frag) (C : Addr) (sp : Sp) (E : XK) (la lb : Addr) (N : Nat) : Nat → Hp → (Bool → Hp → Prop) → Prop
  | 0, H, Q => (∃ XS YS, TwoH la lb N H XS YS) ∧ Q true H
  | k + 1, H, Q => ∃ XS YS a b dx dy vs ws, TwoH la lb N H XS YS ∧ XS[N - (k + 1)]? = some (.ref a) ∧ YS[N - (k + 1)]? = some (.ref b) ∧ SlX.Slt H a C dx vs ∧ SlX.Slt H b C dy ws ∧ (a = b → Uq K H → EqS K C sp E la lb N k H Q) ∧
      (a ≠ b → sp [.ref a, .ref b] H (fun z H' => ∃ r, z = .bl r ∧ (r = true → EqS K C sp E la lb N k H' Q) ∧ (r = false → Q false H' ∧ ∃ XS YS, TwoH la lb N H' XS YS)) E)
theorem EqS.two {K : PySem.W.Frag} {C : Addr} {sp : Sp} {E : XK} {la lb : Addr} {N k : Nat} {H : Hp} {Q : Bool → Hp → Prop} (h : EqS K C sp E la lb N k H Q) : ∃ XS YS, TwoH la lb N H XS YS := by
  cases k with
  | zero => exact h.1
  | succ k =>
    obtain ⟨XS, YS, _, _, _, _, _, _, t, _⟩ := h
    exact ⟨XS, YS, t⟩
def rListG (K : PySem.W.Frag) (C : Addr) (sp : Sp) (E : XK) : R2 := fun x y H Q => ∃ la lb XS YS, x = .ref la ∧ y = .ref lb ∧ H la = some (.lst XS) ∧ H lb = some (.lst YS) ∧
  ((XS.length ≠ YS.length ∧ Q (.bl true) H) ∨ (XS.length = YS.length ∧ EqS K C sp E la lb XS.length XS.length H fun r H' => Q (.bl (!r)) H'))
theorem op_listG {X : Cx} {CX : CXT} {C g : Addr} {n : Nat} {sp : Sp} {E : XK} (hs : PySem.W.findIn X.K (.ref C) "__eq__" = some (some (.ref g))) (hf : PySem.W.isFn X.K (.ref g) = true) (F : FnR X.prog X.w X.K X.mg X.base CX n g sp) (hr : Room (n + 1) X.A) (hx : Passes CX X E) : OpR X (compareOp .NotEq) (rListG X.K C sp E) := by
  intro pins s σ H x y v u Q I rx ry h
  obtain ⟨la, lb, XS, YS, rfl, rfl, hA, hB, q⟩ := h
  cases (show v = Value.ref la from rx)
  cases (show u = Value.ref lb from ry)
  show wpAny _ _ (richCompare .NotEq (.ref la) (.ref lb)) _ _ _
  rcases q with ⟨hne, q⟩ | ⟨hlen, q⟩
  · obtain ⟨z1, it1, k1, r1, g1⟩ := I.hok la _ hA
    obtain ⟨z2, it2, k2, r2, g2⟩ := I.hok lb _ hB
    refine SeqAt.RcNeAt.lists_lengths ⟨_, g1, rfl, k1, rfl⟩ ⟨_, g2, rfl, k2, rfl⟩ ?_ hr.units0 X.prog X.w X.xe _ ⟨.bl true, H, I, rfl, q⟩
    simp only [List.size_toArray, bne_iff_ne, ne_eq]
    rw [← r1.length, ← r2.length]
    exact hne
  · generalize XS.length = N at *
    have arr : ∀ {H' : Hp} {s' : Shared} {XS YS : List V}, Inv X pins σ H' s' → TwoH la lb N H' XS YS → ∃ us vs : Array Value, Two la lb N s' us vs ∧ Vals XS us.toList ∧ Vals YS vs.toList := fun {H' s' XS YS} I' t => by
      obtain ⟨t1, t2, t3, t4⟩ := t
      obtain ⟨z1, it1, k1, r1, g1⟩ := I'.hok la _ t1
      obtain ⟨z2, it2, k2, r2, g2⟩ := I'.hok lb _ t2
      exact ⟨it1.toArray, it2.toArray, ⟨k1, k2, g1, g2, by rw [List.size_toArray, ← r1.length, t3], by rw [List.size_toArray, ← r2.length, t4]⟩, r1, r2⟩
    refine rc_listsN (N := N) hr.units0 (fun i s' => i ≤ N ∧ ∃ H', Inv X pins σ H' s' ∧ EqS X.K C sp E la lb N (N - i) H' fun r H' => Q (.bl (!r)) H') (fun s' => ∃ H', Inv X pins σ H' s' ∧ Q (.bl true) H') ?_ ?_ ?_ ⟨Nat.zero_le _, H, I, q⟩
    · rintro i s1 ⟨hi, H1, I1, q1⟩
      obtain ⟨XS0, YS0, t0⟩ := q1.two
      obtain ⟨us, vs, tw, ru, rv⟩ := arr I1 t0
      refine ⟨us, vs, tw, fun h1 h2 => ?_⟩
      obtain ⟨k1, k2, gA, gB, e1, e2⟩ := tw
      have hiN : i < N := by omega
      have hk : N - i = (N - (i + 1)) + 1 := by omega
      rw [hk] at q1
      obtain ⟨XS, YS, a, b, dx, dy, ws1, ws2, t, ex, ey, sa, sb, same, diff⟩ := q1
      have eX : XS0 = XS := by
        have := t0.1.symm.trans t.1
        injection this with this
        injection this
      have eY : YS0 = YS := by
        have := t0.2.1.symm.trans t.2.1
        injection this with this
        injection this
      subst eX eY
      rw [show N - (N - (i + 1) + 1) = i by omega] at ex ey
      obtain ⟨u1, hu1, ru1⟩ := ru.get ex
      obtain ⟨u2, hu2, ru2⟩ := rv.get ey
      cases (show u1 = Value.ref a from ru1)
      cases (show u2 = Value.ref b from ru2)
      have w1 : us[i] = Value.ref a := by
        obtain ⟨_, e⟩ := List.getElem?_eq_some_iff.mp hu1
        simpa using e
      have w2 : vs[i] = Value.ref b := by
        obtain ⟨_, e⟩ := List.getElem?_eq_some_iff.mp hu2
        simpa using e
      rw [w1, w2]
      by_cases hab : a = b
      · subst hab
        exact SeqAt.EqAt.same (A := X.A.in1) (s := s1) (.ref a) X.prog X.w X.xe _ (.inl ⟨rfl, by omega, H1, I1, same rfl (uq_of I1)⟩)
      · obtain ⟨sl, od, _, J, _⟩ := SlX.slt_inst I1 sa
        obtain ⟨sl', od', _, J', _⟩ := SlX.slt_inst I1 sb
        obtain ⟨mm, hF⟩ := I1.fr
        refine GQ.eqBool_refG hab (PySem.W.cmp_K (op := .Eq) (tb := .ref C) hr.in1.units0 hF I1.ok.mod.kin J J'.type (by simp [PySem.W.notFirst]) hs hf ?_)
        refine wpAny_mono (wpAny_call (SlX.run_at (us := [.ref a, .ref b]) (ws := [.ref a, .ref b]) F hr.in1 I1.env0.in1 hx I1 (.cons rfl (.cons rfl .nil)) (diff hab))) (fun w s' z => ?_) fun _ _ x => x
        obtain ⟨z', H', I', rz, r, ez, yes, no⟩ := z
        subst ez
        cases rz
        refine ⟨r, rfl, ?_⟩
        cases r with
        | true => exact .inl ⟨rfl, by omega, H', I', yes rfl⟩
        | false =>
          obtain ⟨q0, XS1, YS1, t1⟩ := no rfl
          obtain ⟨us', vs', tw', _, _⟩ := arr I' t1
          exact .inr ⟨rfl, ⟨H', I', q0⟩, us', vs', tw'⟩
    · rintro s' ⟨_, H', I', q'⟩
      rw [Nat.sub_self] at q'
      exact ⟨.bl false, H', I', rfl, q'.2⟩
    · rintro s' ⟨H', I', q'⟩
      exact ⟨.bl true, H', I', rfl, q'⟩
/-- the list at la stays ds as long as the store does -/
def RdL (c : Cf) (Ψ : Wd) (H : Hp) (S : Sto) (la : Addr) (ds : List D) : Prop := ∀ Ψ' H', Ext Ψ H Ψ' H' → StoOk c Ψ' H' S → ∃ vs, H' la = some (.lst vs) ∧ Reps c Ψ' vs ds
theorem RdL.ext {c : Cf} {Ψ Ψ' : Wd} {H H' : Hp} {S : Sto} {la : Addr} {ds : List D} (h : RdL c Ψ H S la ds) (x : Ext Ψ H Ψ' H') : RdL c Ψ' H' S la ds := fun Ψ2 H2 x2 s2 => h Ψ2 H2 (x.trans x2) s2
theorem repB_rdl {c : Cf} {Ψ : Wd} {σ : L2.St} {ρ : Env} {H : Hp} {F : Nat → List Addr} {S : Sto} {v : V} {d : D} {ds : List D} (so : StoOk c Ψ H S) (e : EnvOk c Ψ σ ρ H F) (r : RepB c Ψ σ ρ v d) (hd : drD d S = .lst ds) : ∃ a, v = .ref a ∧ RdL c Ψ H S a ds := by
  unfold drD at hd
  split at hd
  · rename_i n
    split at hd
    · rename_i ds' hn
      cases hd
      rcases r with r | ⟨i, ds', ed, _⟩
      · cases r with
        | obj hp =>
          rename_i p
          refine ⟨p.1, rfl, fun Ψ' H' x' s' => ?_⟩
          obtain ⟨p', h3, vs, h4, h5, h6, h7⟩ := s'.obj n _ hn
          rw [x'.le.mu _ _ hp] at h3; cases h3
          exact ⟨vs, h4, h7⟩
      · cases ed
    · cases hd
  · subst hd
    obtain ⟨a, vs, rfl, hA, rA, fA⟩ := repB_lst so e r
    exact ⟨a, rfl, fun Ψ' H' x' s' => ⟨vs, x'.keep _ _ hA fA, rA.mono x'.le⟩⟩
theorem eqS_of {c : Cf} {kc : Nat} {m : List D → M D} {E : XK} (hm : EqPlain kc m) {la lb : Addr} {S : Sto} {N : Nat} {xs ys : List D} (hx : xs.length = N) (hy : ys.length = N) : ∀ (k : Nat) {Ψ : Wd} {H : Hp} {b : Bool} {Qb : Bool → Hp → Prop}, k ≤ N → lstEq kc (xs.drop (N - k)) (ys.drop (N - k)) = some b → StoOk c Ψ H S → RdL c Ψ H S la xs → RdL c Ψ H S lb ys →
    (∀ Ψ' H', Ext Ψ H Ψ' H' → StoOk c Ψ' H' S → Qb b H') → EqS c.K (c.cls kc) (PromF c 2 m) E la lb N k H Qb
  | 0, Ψ, H, b, Qb, _, e, so, ra, rb, q => by
    rw [Nat.sub_zero, List.drop_eq_nil_of_le (by omega), List.drop_eq_nil_of_le (by omega)] at e
    cases e
    obtain ⟨XS, h1, r1⟩ := ra Ψ H (Ext.refl _ _) so
    obtain ⟨YS, h2, r2⟩ := rb Ψ H (Ext.refl _ _) so
    exact ⟨⟨XS, YS, h1, h2, by rw [r1.length, hx], by rw [r2.length, hy]⟩, q Ψ H (Ext.refl _ _) so⟩
  | k + 1, Ψ, H, b, Qb, hk, e, so, ra, rb, q => by
    have lx : N - (k + 1) < xs.length := by omega
    have ly : N - (k + 1) < ys.length := by omega
    rw [List.drop_eq_getElem_cons lx, List.drop_eq_getElem_cons ly, show N - (k + 1) + 1 = N - k by omega] at e
    obtain ⟨XS, h1, r1⟩ := ra Ψ H (Ext.refl _ _) so
    obtain ⟨YS, h2, r2⟩ := rb Ψ H (Ext.refl _ _) so
    have tw : TwoH la lb N H XS YS := ⟨h1, h2, by rw [r1.length, hx], by rw [r2.length, hy]⟩
    obtain ⟨v1, hv1, rv1⟩ := r1.get (List.getElem?_eq_getElem lx)
    obtain ⟨v2, hv2, rv2⟩ := r2.get (List.getElem?_eq_getElem ly)
    unfold lstEq at e
    cases hi : insEq kc xs[N - (k + 1)] ys[N - (k + 1)] with
    | none => rw [hi] at e; cases e
    | some r =>
      rw [hi] at e
      have hmr := hm _ _ r S hi
      generalize xs[N - (k + 1)] = x at *
      generalize ys[N - (k + 1)] = y at *
      have hi' := hi
      unfold insEq at hi'
      split at hi'
      · rename_i j x0 j' y0
        split at hi'
        · rename_i hj
          obtain ⟨rfl, rfl⟩ := hj
          cases rv1 with
          | ins h0 r0 =>
            cases rv2 with
            | ins h0' r0' =>
              rename_i a dx vs0 a' dx' vs0'
              refine ⟨XS, YS, a, a', dx, dx', _, _, tw, hv1, hv2, slt_phi so h0, slt_phi so h0', fun hab u => ?_, fun hab => ?_⟩
              · subst hab
                have hr : r = true := by
                  split at hi'
                  · rename_i p q hp hq
                    split at hi'
                    · cases hi'
                      cases r0 with
                      | cons rv rt =>
                        cases rt
                        cases r0' with
                        | cons rv' rt' =>
                          cases rt'
                          have ev := u.ss _ _ _ _ _ _ (slt_phi so h0) (slt_phi so h0')
                          subst ev
                          rw [rep_uni u (fun a o h => so.phi a o h) (fun a vs h => sqT_phi so h) rv rv' hp hq]
                          exact py_refl hq
                    · cases hi'
                  · cases hi'
                subst hr
                exact eqS_of hm hx hy k (by omega) e so ra rb q
              · refine prom_of (E := E) (ds := [.ins j' [x0], .ins j' [y0]]) (R := fun d' S' => d' = .bl r ∧ S' = S) so (.cons (.ins h0 r0) (.cons (.ins h0' r0') .nil)) ?_ fun d' S' Ψ' v H' hd x1 s1 r1 => ?_
                · show Post c E Ψ H (m [.ins j' [x0], .ins j' [y0]] S) _
                  rw [hmr]
                  exact ⟨rfl, rfl⟩
                · obtain ⟨rfl, rfl⟩ := hd
                  cases r1
                  refine ⟨r, rfl, fun hr => ?_, fun hr => ?_⟩
                  · subst hr
                    exact eqS_of hm hx hy k (by omega) e s1 (ra.ext x1) (rb.ext x1) fun Ψ2 H2 x2 s2 => q Ψ2 H2 (x1.trans x2) s2
                  · subst hr
                    cases e
                    obtain ⟨XS', g1, t1⟩ := ra Ψ' H' x1 s1
                    obtain ⟨YS', g2, t2⟩ := rb Ψ' H' x1 s1
                    exact ⟨q Ψ' H' x1 s1, XS', YS', g1, g2, by rw [t1.length, hx], by rw [t2.length, hy]⟩
        · cases hi'
      · cases hi'
def lstNeM (k : Nat) (x y : D) : M D := fun S => match drD x S, drD y S with
  | .lst xs, .lst ys => if xs.length = ys.length then (match lstEq k xs ys with
    | some b => .ok (.bl (!b)) S
    | none => .stuck) else .ok (.bl true) S
  | _, _ => .stuck
theorem se_neL {c : Cf} {X : Cx} {E : XK} {a b : Expr} {ma mb : Env → M D} {g : Addr} {n k : Nat} {m : List D → M D} {pos : Pos} (ha : SB c X (cW E) a ma) (hb : SB c X (cW E) b mb) (t : Meth c.K (c.cls k) "__eq__" g) (G : Fn c X.prog X.w X.mg X.base n g 2 m) (hr : Room (n + 1) X.A) (tk : Takes X (wx (cW E))) (hp : EqPlain k m)
    (hm : behindInMarks .NotEq b = false := by first | exact nomark _ (by decide) (by decide) | rfl) :
    SE c X (cW E) (.Compare a [.NotEq] [b] pos) (fun ρ => bd (ma ρ) fun x => bd (mb ρ) fun y => lstNeM k x y) := by
  have G' : FnR X.prog X.w X.K X.mg X.base (L2.CX X.prog X.w) n g (PromF c 2 m) := by rw [ha.k]; exact G.r
  refine ⟨ha.k, PE.imp (pe_cmpR (op_listG (C := c.cls k) (by rw [ha.k]; exact t.at_) (by rw [ha.k]; exact t.fn) G' hr (passes_wx tk)) ha.p hb.p hm) fun σ H Q ⟨Ψ, ρ, S, F, so, eo, q⟩ => ⟨Ψ, ρ, S, F, so, eo, q.bd.mono fun x S1 q1 Ψ1 v H1 x1 s1 r1 => ?_⟩⟩
  refine ⟨Ψ1, ρ, S1, F, s1, eo.ext x1, (Post.bd (Post.ext x1 q1)).mono fun y S2 q2 Ψ2 u H2 x2 s2 r2 => ?_⟩
  have x12 := x1.trans x2
  have eo2 := eo.ext x12
  unfold lstNeM at q2
  split at q2
  · rename_i xs ys hxs hys
    obtain ⟨la, rfl, rA⟩ := repB_rdl s2 eo2 (r1.mono x2.le) hxs
    obtain ⟨lb, rfl, rB⟩ := repB_rdl s2 eo2 r2 hys
    obtain ⟨XS, hA, vA⟩ := rA Ψ2 H2 (Ext.refl _ _) s2
    obtain ⟨YS, hB, vB⟩ := rB Ψ2 H2 (Ext.refl _ _) s2
    refine ⟨la, lb, XS, YS, rfl, rfl, hA, hB, ?_⟩
    split at q2
    · rename_i hlen
      split at q2
      · rename_i bb hbb
        refine .inr ⟨by rw [vA.length, vB.length, hlen], ?_⟩
        rw [ha.k, vA.length]
        exact eqS_of hp rfl hlen.symm xs.length (Nat.le_refl _) (by rw [Nat.sub_self]; exact hbb) s2 rA rB fun Ψ3 H3 x3 s3 => q2 Ψ3 _ H3 (x12.trans x3) s3 (.bl _)
      · exact q2.elim
    · rename_i hlen
      exact .inl ⟨by rw [vA.length, vB.length]; exact hlen, q2 Ψ2 _ H2 x12 s2 (.bl _)⟩
  · exact q2.elim
end Sm

/-! text: Sim41 -/
set_option Elab.async false
set_option linter.all false
set_option maxRecDepth 100000
set_option maxHeartbeats 2000000
namespace Sm
open PySem PySem.Spec PyProof.Rows L2
section
variable {c : Cf} {X : Cx} {W : XK} {e : Expr} {x y : Str} {i j : Nat} {pos apos cpos apos2 cpos2 : Pos} {m : Env → M D}
/-- y.append(x.pop(e)) -/
theorem ss_appPop {px py : Pos} (h : SE c X (cW W) e m) (hN : X.N[i]? = some x := by rfl) (hNj : X.N[j]? = some y := by rfl) (hij : i ≠ j := by decide) (hv : Vis X.env.scope x := by first | exact Or.inl rfl | exact Or.inr (Or.inl rfl) | exact Or.inr (Or.inr rfl)) (hd : (x == ("__debug__" : Str)) = false := by decide)
    (hvy : Vis X.env.scope y := by first | exact Or.inl rfl | exact Or.inr (Or.inl rfl) | exact Or.inr (Or.inr rfl)) (hdy : (y == ("__debug__" : Str)) = false := by decide) (hcdy : (y == ("__classdict__" : Str)) = false := by decide)
    (hcd : (x == ("__classdict__" : Str)) = false := by decide) (hbase : attributeBase (.Name x px) "pop" X.env (eval (.Name x px) X.env) = eval (.Name x px) X.env := by rfl)
    (hfew : ((backTo cpos (starEach [e] X.env)).all (fun x => !x.1) && (backToKw cpos (keywordEach [] X.env)).all (fun x => x.1.isSome)
      && decide ([e].length + ([] : List Keyword).length + (if ([] : List Keyword).isEmpty then 0 else 1) < 30)) = true := by rfl)
    (hline : (apos.endLine == cpos.line) = true := by rfl) (hs : starEach [e] X.env = (false, eval e X.env) :: starEach [] X.env := by rfl) (hplain : (backTo cpos (starEach [] X.env)).any (·.1) = false := by rfl)
    (hbase2 : attributeBase (.Name y py) "append" X.env (eval (.Name y py) X.env) = eval (.Name y py) X.env := by rfl)
    (hfew2 : ((backTo cpos2 (starEach [.Call (.Attribute (.Name x px) "pop" apos) [e] [] cpos] X.env)).all (fun x => !x.1) && (backToKw cpos2 (keywordEach [] X.env)).all (fun x => x.1.isSome)
      && decide ([Expr.Call (.Attribute (.Name x px) "pop" apos) [e] [] cpos].length + ([] : List Keyword).length + (if ([] : List Keyword).isEmpty then 0 else 1) < 30)) = true := by rfl)
    (hline2 : (apos2.endLine == cpos2.line) = true := by rfl) (hs2 : starEach [.Call (.Attribute (.Name x px) "pop" apos) [e] [] cpos] X.env = (false, eval (.Call (.Attribute (.Name x px) "pop" apos) [e] [] cpos) X.env) :: starEach [] X.env := by rfl) (hplain2 : (backTo cpos2 (starEach [] X.env)).any (·.1) = false := by rfl)
    (hsw : swapsWith (.Call (.Attribute (.Name y py) "append" apos2) [.Call (.Attribute (.Name x px) "pop" apos) [e] [] cpos] [] cpos2) none pos.line X.env = pure false := by rfl) :
    SS c X W (.Expr (.Call (.Attribute (.Name y py) "append" apos2) [.Call (.Attribute (.Name x px) "pop" apos) [e] [] cpos] [] cpos2) pos)
      (fun ρ => bd (ownAt ρ j) fun _ => bd (popM ρ i (m ρ)) fun r => bd (ownAt r.2 j) fun ds => fun S => if ds.length < LIM then .ok (.nx (r.2.set j (.own (ds ++ [r.1])))) S else .stuck) := by
  refine ⟨h.k, PS.imp (ps_expr (pe_bm PySem.F.plainAttrs_list PySem.F.slot_list_append PySem.F.type_list_append mt_append (pe_var hNj hvy hdy hcdy)
    (pa_cons (pe_bm PySem.F.plainAttrs_list PySem.F.slot_list_pop PySem.F.type_list_pop mt_popAt (pe_var hN hv hd hcd) (pa_cons h.p pa_nil hs) hbase hfew hline hs hplain) pa_nil hs2) hbase2 hfew2 hline2 hs2 hplain2) hsw) fun D σ H ⟨B, Ψ, ρ, S, F, g, q⟩ => ?_⟩
  obtain ⟨ds, a, vs, hr, ha, hF, h1, h2, l, r, q⟩ := own_at g q
  refine ⟨.ref a, h1, .inl ⟨rfl, vs, SqL.of h2⟩, ?_⟩
  refine pop_r g q.bd fun d ρ' S' Ψ' v H' hR g' r' => ?_
  obtain ⟨ds', a', vs', hr', ha', hF', h1', h2', l', r'', q'⟩ := own_at g' hR
  have ea : a' = a := by
    have := h1'.symm.trans h1
    simpa using this
  subst ea
  split at q'
  · rename_i hl
    refine ⟨a', vs', v, rfl, rfl, h2', lim_lt (by rw [r''.length]; exact hl), ?_⟩
    exact q' Ψ' σ _ F (g'.setOwn hr' hF' h1' (by rw [List.length_append, r''.length]; exact hl) (r''.app (.cons r' .nil)))
  · exact q'.elim
end
end Sm

/-! text: Sim42 -/
set_option Elab.async false
set_option linter.all false
set_option maxRecDepth 100000
set_option maxHeartbeats 2000000
namespace Sm
open PySem PySem.Spec PyProof.Rows L2
theorem RepHs.dr {c : Cf} {Ψ : Wd} {H : Hp} {S : Sto} (s : StoOk c Ψ H S) {vs : List V} {ds : List D} (r : RepHs c Ψ H vs ds) : RepHs c Ψ H vs (ds.map (drD · S)) := by
  refine ⟨by rw [List.length_map]; exact r.1, fun i v d h1 h2 => ?_⟩
  rw [List.getElem?_map] at h2
  cases e : ds[i]? with
  | none => rw [e] at h2; cases h2
  | some d0 =>
    rw [e] at h2
    cases h2
    exact dr_rep s (r.2 i v d0 h1 e)
theorem vcn_dr {c : Cf} {r : List V → Hp → VK → Prop} {f : List D → Sto → Option (List D)} (h : VCN c r f) : VCN c r (fun ds S => f (ds.map (drD · S)) S) := by
  intro Ψ H S xs ds es Q s ra e q
  exact h Ψ H S xs _ es Q s (ra.dr s) e q
section
variable {c : Cf} {X : Cx} {W : L2.St → XK} {a b e : Expr} {es : List Expr} {pos p : Pos} {ma mb : Env → M D} {ms : Env → M (List D)}
def neR : D → D → Sto → Option D := fun a b S => neD (drD a S) (drD b S) S
/-- != where a list may lie in the store -/
theorem se_neR (hu : X.A.units + 64 < cLine) (ha : SB c X W a ma) (hb : SB c X W b mb) : SE c X W (.Compare a [.NotEq] [b] pos) (fun ρ => o2 neR (ma ρ) (mb ρ)) := se_cmp (op_neP hu) (ha.k ▸ v2_dr v2_neD) ha hb
theorem st_neR (hu : X.A.units + 64 < cLine) (ha : SB c X W a ma) (hb : SB c X W b mb) : ST c X W (.Compare a [.NotEq] [b] pos) (fun ρ => boolT (o2 neR (ma ρ) (mb ρ))) := st_cmp (op_neP hu) (ha.k ▸ v2_dr v2_neD) ha hb
def listR : List D → Sto → Option (List D) := fun ds S => listD (ds.map (drD · S)) S
theorem sn_listR (ha : SAB c X W (e :: es) ms) (hm : X.mg "list" = none) (hg : Gl X "list" := by rfl) (he : starEach (e :: es) X.env = (false, eval e X.env) :: starEach es X.env := by rfl) (hpl : (backTo pos (starEach es X.env)).any (·.1) = false := by rfl) :
    SN c X W (.Call (.Name "list" p) (e :: es) [] pos) (fun ρ => c1N listR (ms ρ)) := sn_callTy call_list_of (ha.k ▸ vcn_dr vc_list) ha hm boot_list hg (by decide) (by decide) he hpl
end
end Sm

/-! text: Sim43 -/
set_option Elab.async false
set_option linter.all false
set_option maxRecDepth 100000
set_option maxHeartbeats 2000000
namespace Sm
open PySem PySem.Spec PyProof.Rows L2
/-! comparisons by own __eq__, as tests -/
theorem st_core {c : Cf} {X : Cx} {W : L2.St → XK} {op : CmpOp} {r : R2} {a b : Expr} {ta tb : TE} {m : Env → M D} {pos : Pos} (k : X.K = c.K) (ho : OpR X (compareOp op) r) (ha : PE X a ta) (hb : PE X b tb) (hm : behindInMarks op b = false) (core : ∀ σ H Q, rE c W m σ H Q → tOp r ta tb σ H Q) :
    ST c X W (.Compare a [op] [b] pos) (fun ρ => boolT (m ρ)) := by
  refine ⟨k, PT.imp (pt_cmpR ho ha hb hm) fun σ H Q ⟨Ψ, ρ, S, F, so, eo, q⟩ => ?_⟩
  refine core σ H _ ⟨Ψ, ρ, S, F, so, eo, q.bd.mono fun d S1 q1 Ψ1 x H1 e1 so1 r1 => ?_⟩
  unfold asB at q1
  split at q1
  · cases r1
    exact ⟨_, rfl, q1 Ψ1 H1 e1 so1⟩
  · exact q1.elim
section
variable {c : Cf} {X : Cx} {E : XK} {a b : Expr} {ma mb : Env → M D} {g : Addr} {n nn k : Nat} {m : List D → M D} {pos : Pos}
theorem st_eqL {c : Cf} {X : Cx} {E : XK} {a b : Expr} {ma mb : Env → M D} {g : Addr} {n k : Nat} {m : List D → M D} {pos : Pos} (ha : SB c X (cW E) a ma) (hb : SB c X (cW E) b mb) (t : Meth c.K (c.cls k) "__eq__" g) (G : Fn c X.prog X.w X.mg X.base n g 2 m) (hr : Room (n + 1) X.A) (tk : Takes X (wx (cW E))) (hp : EqPlain k m)
    (hm : behindInMarks .Eq b = false := by first | exact nomark _ (by decide) (by decide) | rfl) :
    ST c X (cW E) (.Compare a [.Eq] [b] pos) (fun ρ => boolT (bd (ma ρ) fun x => bd (mb ρ) fun y => lstEqM k x y)) := by
  have G' : FnR X.prog X.w X.K X.mg X.base (L2.CX X.prog X.w) n g (PromF c 2 m) := by rw [ha.k]; exact G.r
  refine st_core ha.k (op_listO (C := c.cls k) (by rw [ha.k]; exact t.at_) (by rw [ha.k]; exact t.fn) G' hr (passes_wx tk)) ha.p hb.p hm fun σ H Q ⟨Ψ, ρ, S, F, so, eo, q⟩ => ⟨Ψ, ρ, S, F, so, eo, q.bd.mono fun x S1 q1 Ψ1 v H1 x1 s1 r1 => ?_⟩
  refine ⟨Ψ1, ρ, S1, F, s1, eo.ext x1, (Post.bd (Post.ext x1 q1)).mono fun y S2 q2 Ψ2 u H2 x2 s2 r2 => ?_⟩
  have x12 := x1.trans x2
  have eo2 := eo.ext x12
  unfold lstEqM at q2
  split at q2
  · rename_i xs ys
    obtain ⟨la, XS, rfl, hA, rA, fA⟩ := repB_lst s2 eo2 (r1.mono x2.le)
    obtain ⟨lb, YS, rfl, hB, rB, fB⟩ := repB_lst s2 eo2 r2
    refine ⟨la, lb, XS, YS, rfl, rfl, hA, hB, ?_⟩
    split at q2
    · rename_i hlen
      split at q2
      · rename_i bb hbb
        refine .inr ⟨by rw [rA.length, rB.length, hlen], ?_⟩
        rw [ha.k]
        exact eqC_of hp rA rB hbb s2 hA hB fA fB fun Ψ3 H3 x3 s3 => q2 Ψ3 _ H3 (x12.trans x3) s3 (.bl _)
      · exact q2.elim
    · rename_i hlen
      exact .inl ⟨by rw [rA.length, rB.length]; exact hlen, q2 Ψ2 _ H2 x12 s2 (.bl _)⟩
  · exact q2.elim
theorem st_eqA (C : CF c nn) (hk : k < nn) (ha : SE c X (cW E) a ma) (hb : SE c X (cW E) b mb) (t : Meth c.K (c.cls k) "__eq__" g) (G : Fn c X.prog X.w X.mg X.base n g 2 m) (hr : Room n X.A) (tk : Takes X (wx (cW E)))
    (hm : behindInMarks .Eq b = false := by first | exact nomark _ (by decide) (by decide) | rfl) :
    ST c X (cW E) (.Compare a [.Eq] [b] pos) (fun ρ => boolT (bd (ma ρ) fun x => bd (mb ρ) fun y => bd (insM k x) fun x => bd (anyM nn y) fun y => callM 2 m [x, y])) := by
  have G' : FnR X.prog X.w X.K X.mg X.base (L2.CX X.prog X.w) n g (PromF c 2 m) := by rw [ha.k]; exact G.r
  refine st_core ha.k (SlX.op_own (op := .Eq) (C := c.cls k) (fun _ _ => rfl) (by rw [ha.k]; exact t.at_) (by rw [ha.k]; exact t.fn) G' hr (passes_wx tk)) ha.p hb.p hm fun σ H Q ⟨Ψ, ρ, S, F, so, eo, q⟩ => ⟨Ψ, ρ, S, F, so, eo, q.bd.mono fun x S1 q1 Ψ1 v H1 x1 s1 r1 => ?_⟩
  refine ⟨Ψ1, ρ, S1, F, s1, eo.ext x1, (Post.bd (Post.ext x1 q1)).mono fun y S2 q2 Ψ2 u H2 x2 s2 r2 => ?_⟩
  have q3 := q2.bd
  unfold insM at q3
  split at q3
  · split at q3
    · rename_i _ fs _ ek _
      subst ek
      have q4 := (show Post c (cW E σ) Ψ1 H1 (bd (anyM nn y) (fun y => callM 2 m [.ins _ fs, y]) S2) _ from q3).bd
      unfold anyM at q4
      split at q4
      · split at q4
        · rename_i j gs hj
          have q5 : Post c E Ψ1 H1 (callM 2 m [.ins _ fs, .ins _ gs] S2) _ := q4
          cases r1 with
          | ins h0 r0 =>
            cases r2 with
            | ins h0' r0' =>
              have h0k := x2.le.slt h0
              refine ⟨_, _, _, _, _, _, _, rfl, rfl, slt_phi s2 h0k, slt_phi s2 h0', by rw [ha.k]; exact C.nf hk hj, ?_⟩
              exact prom_of (E := E) (ds := [.ins _ fs, .ins _ gs]) s2 (.cons (.ins h0k (r0.mono x2.le)) (.cons (.ins h0' r0') .nil)) (q5.ext x2) fun d' S' Ψ' v H' q6 e2 s3 r3 => q6 Ψ' v H' ((x1.trans x2).trans e2) s3 r3
        · exact q4.elim
      · exact q4.elim
    · exact q3.elim
  · exact q3.elim
theorem st_neA (C : CF c nn) (hk : k < nn) (hN : PySem.W.findIn c.K (.ref (c.cls k)) "__ne__" = some (some (.builtin "object.__ne__"))) (ha : SE c X (cW E) a ma) (hb : SE c X (cW E) b mb) (t : Meth c.K (c.cls k) "__eq__" g) (G : Fn c X.prog X.w X.mg X.base n g 2 m) (hr : Room (n + 1) X.A) (hu : X.A.units + 1 < cLine) (tk : Takes X (wx (cW E)))
    (hm : behindInMarks .NotEq b = false := by first | exact nomark _ (by decide) (by decide) | rfl) :
    ST c X (cW E) (.Compare a [.NotEq] [b] pos) (fun ρ => boolT (bd (ma ρ) fun x => bd (mb ρ) fun y => bd (insM k x) fun x => bd (anyM nn y) fun y => bd (callM 2 m [x, y]) fun d => bd (asB d) fun t => rt (.bl (!t)))) := by
  have G' : FnR X.prog X.w X.K X.mg X.base (L2.CX X.prog X.w) n g (PromF c 2 m) := by rw [ha.k]; exact G.r
  refine st_core ha.k (op_ownN (C := c.cls k) (by rw [ha.k]; exact hN) (by rw [ha.k]; exact (C.sc k hk).po) (by rw [ha.k]; exact t.at_) (by rw [ha.k]; exact t.fn) G' hr hu (passes_wx tk)) ha.p hb.p hm fun σ H Q ⟨Ψ, ρ, S, F, so, eo, q⟩ => ⟨Ψ, ρ, S, F, so, eo, q.bd.mono fun x S1 q1 Ψ1 v H1 x1 s1 r1 => ?_⟩
  refine ⟨Ψ1, ρ, S1, F, s1, eo.ext x1, (Post.bd (Post.ext x1 q1)).mono fun y S2 q2 Ψ2 u H2 x2 s2 r2 => ?_⟩
  have q3 := q2.bd
  unfold insM at q3
  split at q3
  · split at q3
    · rename_i _ fs _ ek _
      subst ek
      have q4 := (show Post c (cW E σ) Ψ1 H1 (bd (anyM nn y) (fun y => bd (callM 2 m [.ins _ fs, y]) fun d => bd (asB d) fun t => rt (D.bl (!t))) S2) _ from q3).bd
      unfold anyM at q4
      split at q4
      · split at q4
        · rename_i j gs hj
          have q5 := (show Post c E Ψ1 H1 (bd (callM 2 m [.ins _ fs, .ins _ gs]) (fun d => bd (asB d) fun t => rt (D.bl (!t))) S2) _ from q4)
          cases r1 with
          | ins h0 r0 =>
            cases r2 with
            | ins h0' r0' =>
              have h0k := x2.le.slt h0
              refine ⟨_, _, _, _, _, _, _, rfl, rfl, slt_phi s2 h0k, slt_phi s2 h0', by rw [ha.k]; exact C.nf hk hj, ?_⟩
              refine prom_of (E := E) (ds := [.ins _ fs, .ins _ gs]) s2 (.cons (.ins h0k (r0.mono x2.le)) (.cons (.ins h0' r0') .nil)) (q5.ext x2).bd fun d' S' Ψ' v H' q6 e2 s3 r3 => ?_
              have q7 := q6.bd
              unfold asB at q7
              split at q7
              · cases r3
                exact ⟨_, rfl, q7 Ψ' _ H' ((x1.trans x2).trans e2) s3 (.bl _)⟩
              · exact q7.elim
        · exact q4.elim
      · exact q4.elim
    · exact q3.elim
  · exact q3.elim
theorem st_neL {c : Cf} {X : Cx} {E : XK} {a b : Expr} {ma mb : Env → M D} {g : Addr} {n k : Nat} {m : List D → M D} {pos : Pos} (ha : SB c X (cW E) a ma) (hb : SB c X (cW E) b mb) (t : Meth c.K (c.cls k) "__eq__" g) (G : Fn c X.prog X.w X.mg X.base n g 2 m) (hr : Room (n + 1) X.A) (tk : Takes X (wx (cW E))) (hp : EqPlain k m)
    (hm : behindInMarks .NotEq b = false := by first | exact nomark _ (by decide) (by decide) | rfl) :
    ST c X (cW E) (.Compare a [.NotEq] [b] pos) (fun ρ => boolT (bd (ma ρ) fun x => bd (mb ρ) fun y => lstNeM k x y)) := by
  have G' : FnR X.prog X.w X.K X.mg X.base (L2.CX X.prog X.w) n g (PromF c 2 m) := by rw [ha.k]; exact G.r
  refine st_core ha.k (op_listG (C := c.cls k) (by rw [ha.k]; exact t.at_) (by rw [ha.k]; exact t.fn) G' hr (passes_wx tk)) ha.p hb.p hm fun σ H Q ⟨Ψ, ρ, S, F, so, eo, q⟩ => ⟨Ψ, ρ, S, F, so, eo, q.bd.mono fun x S1 q1 Ψ1 v H1 x1 s1 r1 => ?_⟩
  refine ⟨Ψ1, ρ, S1, F, s1, eo.ext x1, (Post.bd (Post.ext x1 q1)).mono fun y S2 q2 Ψ2 u H2 x2 s2 r2 => ?_⟩
  have x12 := x1.trans x2
  have eo2 := eo.ext x12
  unfold lstNeM at q2
  split at q2
  · rename_i xs ys hxs hys
    obtain ⟨la, rfl, rA⟩ := repB_rdl s2 eo2 (r1.mono x2.le) hxs
    obtain ⟨lb, rfl, rB⟩ := repB_rdl s2 eo2 r2 hys
    obtain ⟨XS, hA, vA⟩ := rA Ψ2 H2 (Ext.refl _ _) s2
    obtain ⟨YS, hB, vB⟩ := rB Ψ2 H2 (Ext.refl _ _) s2
    refine ⟨la, lb, XS, YS, rfl, rfl, hA, hB, ?_⟩
    split at q2
    · rename_i hlen
      split at q2
      · rename_i bb hbb
        refine .inr ⟨by rw [vA.length, vB.length, hlen], ?_⟩
        rw [ha.k, vA.length]
        exact eqS_of hp rfl hlen.symm xs.length (Nat.le_refl _) (by rw [Nat.sub_self]; exact hbb) s2 rA rB fun Ψ3 H3 x3 s3 => q2 Ψ3 _ H3 (x12.trans x3) s3 (.bl _)
      · exact q2.elim
    · rename_i hlen
      exact .inl ⟨by rw [vA.length, vB.length]; exact hlen, q2 Ψ2 _ H2 x12 s2 (.bl _)⟩
  · exact q2.elim
end
end Sm

/-! text: Sim44 -/
set_option Elab.async false
set_option linter.all false
set_option maxRecDepth 100000
set_option maxHeartbeats 1000000
namespace Sm
open PySem PySem.Spec PyProof.Rows L2
/-! ### own exceptions without fields -/
/-- what is known of an own class of exceptions without an __init__ of its own -/
structure ExC (K : PySem.W.Frag) (C : Addr) : Prop where
  q : PySem.W.excIn K C [.type "ValueError", .type "Exception", .type "BaseException", .type "object"] "ValueError.__new__" = true
  kp : PySem.W.keepIn K (.ref C) = true
  sub : PySem.W.subIn K (.ref C) (.type "BaseException") = some true
  ty : PySem.W.typeIn K (.ref C) = some (.type "type")
section
variable {c : Cf} {X : Cx} {W : XK} {x : Str}
theorem ss_raise {k : Nat} {m : Str} {j : Nat} {p p2 pos pos' : Pos} (E : ExC c.K (c.cls k)) (hk : X.K = c.K) (hm : X.mg x = some (.ref (c.cls k))) (tk : Takes X (wx (cW W)))
    (hg : Gl X x := by rfl) (hc : X.calm = true := by rfl) (hdb : (x == ("__debug__" : Str)) = false := by decide) :
    SS c X W (.Raise (some (.Call (.Name x p) [.Constant (.str m) j p2] [] pos)) none pos') (fun _ => thr k []) := by
  refine ⟨hk, PS.imp (ps_raise hc tk (pmk_own (C := c.cls k) PySem.F.excBase_ValueError (by rw [hk]; exact E.q) hm (by rw [hk]; exact E.kp) (raises_own (by rw [hk]; exact E.sub) (by rw [hk]; exact E.ty)) hg hdb)) fun D σ H ⟨B, Ψ, ρ, S, F, g, q⟩ => ?_⟩
  exact q Ψ none H g.x g.so rfl
/-! ### try: e / except x: .. -/
/-- the handler's test by the number of what was raised -/
def tryM (mb : Env → M Out) (tst : Nat → Option Bool) (mh : Env → M Out) : Env → M Out := fun ρ S => match mb ρ S with
  | .ok o S' => .ok o S'
  | .err k fs S' => (match tst k with
    | some true => mh ρ S'
    | some false => .err k fs S'
    | none => .stuck)
  | .stuck => .stuck
def TstOk (c : Cf) (C : Addr) (tst : Nat → Option Bool) : Prop := ∀ k b, tst k = some b → PySem.W.exmOne c.K (.ref (c.cls k)) (.ref C) = some b
/-- the test by a list of answers -/
def tstL : List (Nat × Bool) → Nat → Option Bool
  | [], _ => none
  | p :: r, k => if p.1 = k then some p.2 else tstL r k
theorem tst_nil {c : Cf} {C : Addr} : TstOk c C (tstL []) := fun _ _ h => by cases h
theorem tst_cons {c : Cf} {C : Addr} {a : Nat} {b : Bool} {l : List (Nat × Bool)} (h : PySem.W.exmOne c.K (.ref (c.cls a)) (.ref C) = some b) (t : TstOk c C (tstL l)) : TstOk c C (tstL ((a, b) :: l)) := fun k b' e => by
  unfold tstL at e
  split at e
  · rename_i hk
    have hk' : a = k := hk
    subst hk'
    cases e
    exact h
  · exact t k b' e
abbrev wS (W : WX) : L2.St → XK := fun σ cls d H => W cls d σ H
theorem wS_wx (W : WX) : wx (wS W) = W := rfl
theorem try_mid {tst : Nat → Option Bool} {C : Addr} {me : Env → M D} {mh : Env → M Out} (fo : D → Env → Out) {D : Ends} {σ : L2.St} {H : Hp} {B : Bs} {Ψ : Wd} {ρ : Env} {S : Sto} {F : Nat → List Addr} (hx : TstOk c C tst) (g : Gd c B Ψ σ ρ H F S)
    (q : Post c W B.wd B.H (tryM (fun ρ => bd (me ρ) fun d => rt (fo d ρ)) tst mh ρ S) (OutP c B D)) (R : V → Hp → Prop) (hR : ∀ d S' Ψ' v H', OutP c B D (fo d ρ) S' → Ext Ψ H Ψ' H' → StoOk c Ψ' H' S' → Rep c Ψ' v d → R v H') :
    Post c (fun cls d H' => (wOnly c.K (.ref C) (fun _ _ _ => rS c W mh) (wx (cW W)) D) cls d σ H') Ψ H (me ρ S) fun d S' => ∀ Ψ' v H', Ext Ψ H Ψ' H' → StoOk c Ψ' H' S' → Rep c Ψ' v d → R v H' := by
  unfold tryM bd rt at q
  dsimp only at q
  cases e : me ρ S with
  | ok d S' =>
    rw [e] at q
    exact fun Ψ' v H' x s r => hR d S' Ψ' v H' q x s r
  | err k fs S' =>
    rw [e] at q
    dsimp only at q
    refine fun Ψ' d H' x s r => ?_
    cases t : tst k with
    | none => rw [t] at q; exact q.elim
    | some b =>
      rw [t] at q
      refine ⟨b, hx k b t, fun hb a _ => ?_, fun hb => ?_⟩
      · subst hb
        exact ⟨B, Ψ', ρ, S', F, g.ext x s, q⟩
      · subst hb
        exact q Ψ' d H' (g.x.trans x) s r
  | stuck => rw [e] at q; exact q.elim
variable {e : Expr} {me : Env → M D} {mh : Env → M Out} {suite : List Stmt} {b₀ : Stmt} {np rp pos pos' : Pos}
/-- try: return e / except x: suite -/
theorem ss_tryRet {C : Addr} {tst : Nat → Option Bool} (hs : X.stack = X.env :: X.outer) (hf : X.env.frame = some X.env.locals) (hk : X.K = c.K) (hm : X.mg x = some (.ref C)) (hx : TstOk c C tst) (tk : Takes X (wx (cW W)))
    (hb : ∀ (W' : WX) (pn : List (Addr × Obj)) (xe : Value → Shared → Prop), Takes (X.tr pn xe) W' → SE c (X.tr pn xe) (wS W') e me)
    (hsu : ∀ (a : Addr) (pn : List (Addr × Obj)), SSs c (X.suite a pn) W (b₀ :: suite) mh) (hg : Gl X x := by rfl) (hdb : (x == ("__debug__" : Str)) = false := by decide) :
    SS c X W (.Try [.Return (some e) rp] [.ExceptHandler (some (.Name x np)) none (b₀ :: suite) pos'] [] [] pos) (tryM (fun ρ => bd (me ρ) fun d => rt (.ret d)) tst mh) := by
  refine ⟨hk, PS.imp (ps_try_only (c := .ref C) (Wout := wx (cW W)) (tb := fun W' D σ H => rE c (wS W') me σ H fun v H1 => D.rt v H1) (ts := fun _ _ _ => rS c W mh) hs hf ⟨hg, hdb, .inl hm⟩ tk
    (fun W' pn xe t _ => pss_one (ps_ret (hb W' pn xe t).p)) fun a oe cls d pn _ _ => (hsu a ((a, oe) :: pn)).p) fun D σ H ⟨B, Ψ, ρ, S, F, g, q⟩ => ?_⟩
  refine ⟨Ψ, ρ, S, F, g.so, g.eo, ?_⟩
  rw [hk]
  exact try_mid (fun d _ => .ret d) hx g q _ fun d S' Ψ' v H' h x s r => h Ψ' v H' (g.x.trans x) s r
/-- try: e / except x: suite -/
theorem ss_tryExpr {C : Addr} {tst : Nat → Option Bool} (hs : X.stack = X.env :: X.outer) (hf : X.env.frame = some X.env.locals) (hk : X.K = c.K) (hm : X.mg x = some (.ref C)) (hx : TstOk c C tst) (tk : Takes X (wx (cW W)))
    (hb : ∀ (W' : WX) (pn : List (Addr × Obj)) (xe : Value → Shared → Prop), Takes (X.tr pn xe) W' → SE c (X.tr pn xe) (wS W') e me)
    (hsu : ∀ (a : Addr) (pn : List (Addr × Obj)), SSs c (X.suite a pn) W (b₀ :: suite) mh) (hg : Gl X x := by rfl) (hdb : (x == ("__debug__" : Str)) = false := by decide)
    (hsw : swapsWith e none rp.line X.env = pure false := by rfl) : SS c X W (.Try [.Expr e rp] [.ExceptHandler (some (.Name x np)) none (b₀ :: suite) pos'] [] [] pos) (tryM (fun ρ => bd (me ρ) fun _ => rt (.nx ρ)) tst mh) := by
  refine ⟨hk, PS.imp (ps_try_only (c := .ref C) (Wout := wx (cW W)) (tb := fun W' D σ H => rE c (wS W') me σ H fun _ H1 => D.nx σ H1) (ts := fun _ _ _ => rS c W mh) hs hf ⟨hg, hdb, .inl hm⟩ tk
    (fun W' pn xe t _ => pss_one (ps_expr (hb W' pn xe t).p hsw)) fun a oe cls d pn _ _ => (hsu a ((a, oe) :: pn)).p) fun D σ H ⟨B, Ψ, ρ, S, F, g, q⟩ => ?_⟩
  refine ⟨Ψ, ρ, S, F, g.so, g.eo, ?_⟩
  rw [hk]
  exact try_mid (fun _ ρ => .nx ρ) hx g q _ fun d S' Ψ' v H' h x s r => h Ψ' σ H' F (g.ext x s)
end
/-! ### x.m(..), x a class, m a staticmethod of it -/
structure SMet (K : PySem.W.Frag) (C : Addr) (m : Str) (p g : Addr) : Prop where
  rd : PySem.W.readsIn K C (.type "type") = true
  ga : PySem.W.specialIn K (.ref C) "__getattribute__" = some (some (.builtin "type.__getattribute__"))
  at_ : PySem.W.findCls K (.ref C) (.type "type") m = some (.get (.builtin "staticmethod.__get__") (.ref p) .none (.ref C))
  rc : ∃ rest, PySem.W.recIn K p "staticmethod" = some (.ref g :: rest)
section
variable {c : Cf} {X : Cx} {W : L2.St → XK} {x m : Str} {e : Expr} {es : List Expr} {pos apos np : Pos} {pl : Sem Bool}
theorem pe_static {C p g : Addr} {k n : Nat} {mm : List D → M D} {t : TA} (r : SMet X.K C m p g) (F : Fn c X.prog X.w X.mg X.base k g n mm) (hk : X.K = c.K) (hr : Room k X.A) (hm : X.mg x = some (.ref C)) (tk : Takes X (wx W)) (ha : PA X (e :: es) t)
    (hg : Gl X x := by rfl) (hdb : (x == ("__debug__" : Str)) = false := by decide) (hst : starEach (e :: es) X.env = (false, eval e X.env) :: starEach es X.env := by rfl) (hpl : (backTo pos (starEach es X.env)).any (·.1) = false := by rfl)
    (ht : eval (.Call (.Attribute (.Name x np) m apos) (e :: es) [] pos) X.env = (do
      let ov ← eval (.Name x np) X.env
      standAt apos.atName
      let (f, first) ← holding [ov] (getMethod ov m pl)
      callWith pos f first (backTo pos (starEach (e :: es) X.env)) (backToKw pos (keywordEach [] X.env))) := by rfl) :
    PE X (.Call (.Attribute (.Name x np) m apos) (e :: es) [] pos) (fun σ H Q => t σ H fun vs H1 => PromF c n mm vs H1 Q (W σ)) := by
  refine ⟨fun pins s σ H Q I h => ?_⟩
  obtain ⟨rest, hp⟩ := r.rc
  refine PySem.W.methodCall_KW (pl := pl) (thn ((pe_glob (v := .ref C) hg hm rfl (hd := hdb)).run pins s σ H (fun v H1 => v = .ref C ∧ H1 = H) I ⟨rfl, rfl⟩) fun u s1 ⟨v, H1, I1, rv, ev, eH⟩ => ?_) ht
  subst ev
  subst eH
  obtain rfl : u = Value.ref C := rv
  refine PySem.W.method_cls I1.kIn r.ga (PySem.W.cls_bind I1.kIn r.rd r.at_ (wpAny_call (PySem.W.sm_get (s := { s1 with toks := s1.toks + 1 }) I1.kIn hp (PySem.W.handed_on rfl ?_))))
  have I2 : Inv X pins σ H1 { s1 with toks := s1.toks + 1 } := I1.tok _
  refine PySem.W.callWith_K (h₀ := X.base) I2.ok.mod.kin (by rw [hk]; exact F.kp) (thn (ha.run pos pins _ σ H1 _ I2 h) fun us s3 ⟨vs, H2, I3, r3, q⟩ => ⟨I3.kIn, ?_⟩) hst hpl
  refine wpAny_call (codeAny_mono (F.r X.A X.stack s3 H2 us vs Q (W σ) hr (hk ▸ I3.env0) r3 q) fun r s' hq => ?_)
  cases r with
  | error e => exact tk _ _ (XE.of_call I3 (fun _ _ _ h => h) hq)
  | ok fl =>
    cases fl with
    | ret u => exact I3.after hq
    | next => exact False.elim hq
    | brk => exact False.elim hq
    | cont => exact False.elim hq
theorem se_static {C p g : Addr} {k n : Nat} {mm : List D → M D} {ma : Env → M (List D)} (r : SMet X.K C m p g) (F : Fn c X.prog X.w X.mg X.base k g n mm) (hr : Room k X.A) (hm : X.mg x = some (.ref C)) (tk : Takes X (wx W)) (ha : SA c X W (e :: es) ma)
    (hg : Gl X x := by rfl) (hdb : (x == ("__debug__" : Str)) = false := by decide) (hst : starEach (e :: es) X.env = (false, eval e X.env) :: starEach es X.env := by rfl) (hpl : (backTo pos (starEach es X.env)).any (·.1) = false := by rfl)
    (ht : eval (.Call (.Attribute (.Name x np) m apos) (e :: es) [] pos) X.env = (do
      let ov ← eval (.Name x np) X.env
      standAt apos.atName
      let (f, first) ← holding [ov] (getMethod ov m pl)
      callWith pos f first (backTo pos (starEach (e :: es) X.env)) (backToKw pos (keywordEach [] X.env))) := by rfl) :
    SE c X W (.Call (.Attribute (.Name x np) m apos) (e :: es) [] pos) (fun ρ => bd (ma ρ) fun ds => callM n mm ds) := by
  refine ⟨ha.k, PE.imp (pe_static r F ha.k hr hm tk ha.p hg hdb hst hpl ht) fun σ H Q ⟨Ψ, ρ, S, F, so, eo, q⟩ => ⟨Ψ, ρ, S, F, so, eo, q.bd.mono fun ds S1 q1 Ψ1 vs H1 e1 so1 r1 => ?_⟩⟩
  exact prom_of so1 r1 (q1.ext e1) fun d S' Ψ' v H' q e2 s2 r2 => q Ψ' v H' (e1.trans e2) s2 r2
end
end Sm

/-! text: Sim45 -/
set_option Elab.async false
set_option linter.all false
set_option maxRecDepth 100000
set_option maxHeartbeats 2000000
namespace Sm
open PySem PySem.Spec PyProof.Rows L2 LamX
/-! ### f(lambda: e): the table of code objects may grow -/
def GrowT (H : Hp) (P : Addr) (q : Str) (ps : Array Value) (H1 : Hp) : Prop := H1 = H ∨ ∃ (c' : Addr) (more : Array Value), H c' = none ∧ H1 = upd (upd H P (.tbl (ps ++ more))) c' (CodeO c' q) ∧ TriplesOk (ps ++ more).toList ∧
  ∀ (pos : Pos) (cv : Value), codeAmong pos (ps ++ more).toList = some cv → codeAmong pos ps.toList = some cv ∨ cv = .ref c'
section
variable {X : Cx} {pins : List (Addr × Obj)} {σ : L2.St} {H : Hp} {s : Shared}
theorem lam_make3 {c P : Addr} {params : Arguments} {body : Expr} {scope : Scope} {pos : Pos} {E : Value → Shared → Prop} {Q : Value → Shared → Prop} {ps : Array Value} (I : Inv X pins σ H s) (TB : TabB X.base X.mg c P) (hcode : X.env.code = .ref c)
    (hP : H P = some (.tbl ps)) (ht : TriplesOk ps.toList) (ha : ∀ (pos : Pos) (cv : Value), codeAmong pos ps.toList = some cv → ∃ a, cv = .ref a ∧ H a = some (CodeO a (X.env.qual ++ "<lambda>"))) (hdef : defaultsOf params X.env = ([], [])) (hfree : ∀ y ∈ scope.names, y.2 = .free → ∃ c, X.env.cells.lookup y.1 = some c)
    (h : ∀ (f c' : Addr) (pm ctv : Value) (H1 : Hp) (s' : Shared), Inv X pins σ H1 s' → GrowT H P (X.env.qual ++ "<lambda>") ps H1 →
      s'.heap.get? f = some (PySem.W.kla_obj "<lambda>" (X.env.qual ++ "<lambda>") params body scope (cloFrom X.env.cells scope.names []) pm c' ctv) → H1 f = none → f ∉ frs X.stack → H1 c' = some (CodeO c' (X.env.qual ++ "<lambda>")) → Q (.ref f) s') :
    wpAny (model X.prog X.w) X.A (eval (.Lambda params body scope pos) X.env) Q E s := by
  refine PySem.W.kla_eval hdef ?_
  have bP : s.heap.BuiltinsAt X.mg P := TB.bm.keeps I.bk
  have hP' : s.heap.get? P = some { cls := .none, data := .fields ps } := I.hok P _ hP
  have nofr : ∀ f, s.heap.objs.size ≤ f → f ∉ frs X.stack := fun f hf z => by
    rcases List.mem_cons.mp (I.stkSub _ z) with e | e
    · have h1 := I.lt
      rw [← e] at h1
      exact Nat.lt_irrefl _ (Nat.lt_of_lt_of_le h1 hf)
    · exact I.nofs hf e
  cases hc : codeAmong pos ps.toList with
  | none =>
    refine PySem.W.kla_makeFunction (mg := X.mg) (c := c) (P := P) (ps := ps) (closure_ok hfree) I.ok.glob (I.mod.glob.keeps I.bk) hcode (TB.code.keeps I.bk) hP' ht hc TB.gP bP fun c' ctv h' tk hx hge hlt hrec htb => ?_
    obtain ⟨c2, oc, vs, t, e2, hoc, hd, hv⟩ := hrec
    cases e2
    have hsz : s.heap.objs.size ≤ h'.objs.size := Nat.le_trans hge (Nat.le_of_lt hlt)
    have nC : H c' = none := I.hok.fresh hge
    have I1 := inv_table (t' := tk) (more := #[rawInt pos.line, rawInt pos.col, .ref c']) (h' := h'.push (PySem.W.kla_obj "<lambda>" (X.env.qual ++ "<lambda>") params body scope (cloFrom X.env.cells scope.names []) ((X.mg "__name__").getD .none) c' ctv)) I hP
      (fun b o hb e => Heap.get?_push_of_some _ (hx b o hb e)) (Heap.get?_push_of_some _ htb) hge ⟨oc, vs, t, Heap.get?_push_of_some _ hoc, hd, hv⟩
    have eL : (ps ++ #[rawInt pos.line, rawInt pos.col, .ref c']).toList = ps.toList ++ [rawInt pos.line, rawInt pos.col, .ref c'] := by simp
    refine h h'.objs.size c' ((X.mg "__name__").getD .none) ctv _ _ I1 (.inr ⟨c', _, nC, rfl, by rw [eL]; exact PySem.TriplesOk_snoc _ _ _ _ ht, fun p' cv hcv => ?_⟩) (Heap.get?_push_size _ rfl) ?_ (nofr _ hsz) upd_same
    · rw [eL] at hcv
      exact among_app _ ht hcv
    · have n1 : h'.objs.size ≠ c' := Nat.ne_of_gt hlt
      have n2 : h'.objs.size ≠ P := Nat.ne_of_gt (Nat.lt_of_lt_of_le (Heap.lt_size hP') hsz)
      rw [upd_ne n1, upd_ne n2]
      exact I.hok.fresh hsz
  | some cv =>
    obtain ⟨c', e, hco⟩ := ha pos cv hc
    subst e
    refine PySem.W.kla_makeFunctionHit (mg := X.mg) (c := c) (P := P) (ps := ps) (closure_ok hfree) I.ok.glob (I.mod.glob.keeps I.bk) hcode (TB.code.keeps I.bk) hP' ht hc bP fun ctv h' tk hx hsz => ?_
    have I1 : Inv X pins σ H { s with heap := h'.push (PySem.W.kla_obj "<lambda>" (X.env.qual ++ "<lambda>") params body scope (cloFrom X.env.cells scope.names []) ((X.mg "__name__").getD .none) c' ctv), toks := tk } := I.kept fun b o e => Heap.get?_push_of_some _ (hx b o e)
    exact h h'.objs.size c' ((X.mg "__name__").getD .none) ctv H _ I1 (.inl rfl) (Heap.get?_push_size _ rfl) (I.hok.fresh hsz) (nofr _ hsz) hco
end
def tLam3 (P : Addr) (q : Str) (TT : (XK → Hp → VK → Prop) → Hp → VK → Prop) (t : XK → TE) : TE := fun σ H Q => ∃ ps : Array Value, H P = some (.tbl ps) ∧ TriplesOk ps.toList ∧
  (∀ (pos : Pos) (cv : Value), codeAmong pos ps.toList = some cv → ∃ a, cv = .ref a ∧ H a = some (CodeO a q)) ∧ ∀ H1, GrowT H P q ps H1 → TT (fun E H' Q' => t E σ H' Q') H1 Q
theorem pe_lamcall3 {X : Cx} {TT : (XK → Hp → VK → Prop) → Hp → VK → Prop} {x a : Str} {g c P : Addr} {k : Nat} {pg : Arguments} {bg : List Stmt} {sg : Scope} {dV kV doc pm cdv ct oc : Value} {an od : Option Addr} {osl : Array (Option Value)} {Ng : List Str}
    {params : Arguments} {body : Expr} {scope : Scope} {t : XK → TE} {p lpos pos : Pos} (hg : Gl X x) (hm : X.mg x = some (.ref g)) (hk : PySem.W.keepIn X.K (.ref g) = true)
    (lk : X.K.lookup g = some ⟨oc, od, .func (PySem.W.fnOf x x pg bg sg dV kV doc pm an cdv ct), osl⟩) (hcg : PySem.W.codeIn X.K cdv x = true) (hb : L2.Binds X.K (PySem.W.fnOf x x pg bg sg dV kV doc pm an cdv ct) [a] []) (Sg : FnScope Ng [a] sg) (hNg : Ng[0]? = some a) (hva : Vis sg a)
    (hG : GivesTo X Ng x sg g cdv bg a (X.env.qual ++ "<lambda>") TT)
    (TB : TabB X.base X.mg c P) (hcode : X.env.code = .ref c) (hr : Room (k + 2) X.A) (L : LamS X.env.scope scope) (hdef : defaultsOf params X.env = ([], []))
    (hbind : ∀ (q : Str) (cl : List (Str × Addr)) (pm cv ctv : Value), bindArgs (PySem.W.kla_fn "<lambda>" q params body scope cl pm cv ctv) ⟨[], []⟩ = pure [])
    (hbody : ∀ (A : Around) (outer : List PySem.Env) (s : Shared) (H : Hp) (E : XK) (f c' : Addr), Room k (A.deeper (lamEnv X scope s.heap.objs.size f c')) → PE (lamCx X A outer s H E scope f c') body (t E))
    (hdb : (x == ("__debug__" : Str)) = false := by decide) (hd : (a == ("__debug__" : Str)) = false := by decide) (hcd : (a == ("__classdict__" : Str)) = false := by decide) :
    PE X (.Call (.Name x p) [.Lambda params body scope lpos] [] pos) (tLam3 P (X.env.qual ++ "<lambda>") TT t) := by
  refine ⟨fun pins s σ H Q I h => ?_⟩
  obtain ⟨ps, hP, ht, ha, h⟩ := h
  refine wpAny_Call_Name_kw (ld_glob I hg hm ?_ hdb)
  refine PySem.W.callWith_K (h₀ := X.base) I.ok.mod.kin hk ?_ (by rfl) (by rfl)
  show wpAny _ _ (spliced ((false, eval (.Lambda params body scope lpos) X.env) :: backTo pos (starEach [] X.env))) _ _ s
  refine Calls.spliced_cons (lam_make3 I TB hcode hP ht ha hdef (L.has I.ok) fun f c' pm' ctv H1 s' I1 eN hf hfn hfr hco => ?_)
  refine Calls.spliced_nil ⟨I1.kIn, ?_⟩
  have rc : codeAny (model X.prog X.w) X.A (.call (.ref g) ⟨[.ref f], []⟩) (CR C8.CX0 X.stack X.prog X.w H1 s' Q C8.E0) s' := by
    refine run_ofS (N := Ng) (ps := [a]) (us := [.ref f]) (vs := [.ref f]) lk hcg Sg hr I1.env0 (hb s' [.ref f] I1.kIn rfl) (.cons rfl .nil) rfl fun hr' => ?_
    obtain ⟨t', ht', hq'⟩ := hG f c' s' H1 Q (fun E H' Q' => t E σ H' Q') (fun W pn xe E p1 p2 tk hW => pe_act (i := 0) I1 L hf hfn hfr (hbind _ _ _ _ _) tk hW hr' (fun A outer s H hr2 => hbody A outer s H E f c' hr2) hNg hva hd hcd) hco (h H1 eN)
    exact ⟨t', ht'.nox, hq'⟩
  refine wpAny_call (codeAny_mono rc fun r s2 hq => ?_)
  cases r with
  | error e => exact (show False from hq).elim
  | ok fl =>
    cases fl with
    | ret u => exact I1.after hq
    | next => exact False.elim hq
    | brk => exact False.elim hq
    | cont => exact False.elim hq
/-! the world behind it -/
theorem grow_ok {c : Cf} {Ψ : Wd} {H H1 : Hp} {S : Sto} {P : Addr} {q : Str} {ps : Array Value} (s : StoOk c Ψ H S) (hT : (P, q) ∈ c.tb) (hu : ∀ p ∈ c.tb, p.1 = P → p.2 = q) (hP : H P = some (.tbl ps))
    (hc : ∀ (pos : Pos) (cv : Value), codeAmong pos ps.toList = some cv → ∃ a, cv = .ref a ∧ Ψ.fz a = some (CodeO a q)) (hG : GrowT H P q ps H1) : ∃ Ψ1, Ext Ψ H Ψ1 H1 ∧ StoOk c Ψ1 H1 S := by
  rcases hG with rfl | ⟨c', more, nC, rfl, hto, hcs⟩
  · exact ⟨Ψ, Ext.refl _ _, s⟩
  · have nf := s.phiNone nC
    have nft := s.footNone nC
    have hTb : (P, q) ∈ Ψ.tb := by rw [s.tbc]; exact hT
    have fP : Foot Ψ P := .inr ⟨q, hTb⟩
    have pN := s.off P fP
    have nP : P ≠ c' := fun z => by rw [← z, hP] at nC; cases nC
    have at1 : ∀ b, b ≠ P → b ≠ c' → upd (upd H P (.tbl (ps ++ more))) c' (CodeO c' q) b = H b := fun b h1 h2 => by rw [upd_ne h2, upd_ne h1]
    have hk : ∀ b o, H b = some o → b ≠ P → upd (upd H P (.tbl (ps ++ more))) c' (CodeO c' q) b = some o := fun b o h n => by rw [at1 b n (ne_of_none h nC)]; exact h
    refine ⟨Ψ.know c' (CodeO c' q), ⟨Le.know nf, fun b h => ?_, fun a o h => ?_, fun b h => .inl h, fun b o h f => hk b o h fun z => f (by rw [z]; exact fP)⟩, ?_⟩
    · by_cases e : b = c'
      · rw [e]; exact nC
      · by_cases e2 : b = P
        · rw [e2, upd_ne nP, upd_same] at h; cases h
        · rw [at1 b e2 e] at h; exact h
    · by_cases e : a = c'
      · rw [e]; exact .inr nC
      · have h' : upd Ψ.fz c' (CodeO c' q) a = some o := h
        rw [upd_ne e] at h'
        exact .inl h'
    · refine ⟨fun b u e => ?_, fun b e => ?_, s.nd, s.len, s.tbc, fun p hp => ?_, s.tnd, fun i u e => ?_⟩
      · by_cases z : b = c'
        · subst z
          have e' : upd Ψ.fz b (CodeO b q) b = some u := e
          rw [upd_same] at e'
          rw [upd_same]
          exact e'
        · have e' : upd Ψ.fz c' (CodeO c' q) b = some u := e
          rw [upd_ne z] at e'
          exact hk b u (s.phi b u e') fun z2 => by rw [z2, pN] at e'; cases e'
      · show upd Ψ.fz c' (CodeO c' q) b = none
        have z : b ≠ c' := fun z => nft (by rw [← z]; exact e)
        rw [upd_ne z]
        exact s.off b e
      · by_cases z : p.1 = P
        · have e2 := hu p (by rw [← s.tbc]; exact hp) z
          refine ⟨ps ++ more, ?_, hto, fun pos cv hcv => ?_⟩
          · rw [z, upd_ne nP, upd_same]
          · rw [e2]
            rcases hcs pos cv hcv with h | h
            · obtain ⟨a, e1, e3⟩ := hc pos cv h
              exact ⟨a, e1, (Le.know nf).phi _ _ e3⟩
            · exact ⟨c', h, show upd Ψ.fz c' _ c' = _ from upd_same⟩
        · obtain ⟨ps', h1, h2, h3⟩ := s.tab p hp
          exact ⟨ps', hk _ _ h1 z, h2, fun pos cv hcv => let ⟨a, e1, e2⟩ := h3 pos cv hcv; ⟨a, e1, (Le.know nf).phi _ _ e2⟩⟩
      · obtain ⟨p, h1, h2⟩ := s.obj i u e
        obtain ⟨n1, n2⟩ := s.tnd _ hTb i p h1
        refine ⟨p, h1, ?_⟩
        cases u with
        | lst ds => obtain ⟨vs, a, b, l, d⟩ := h2; exact ⟨vs, hk _ _ a n1, b, l, d.mono (Le.know nf)⟩
        | ins kk fs =>
          obtain ⟨vs, a, b, nz, d⟩ := h2
          refine ⟨vs, Slt.keep a (fun b hb u hu => hk b u hu ?_), b, fun z => ?_, d.mono (Le.know nf)⟩
          · rcases hb with rfl | rfl
            · exact n1
            · exact n2
          · cases qq : H p.2 with
            | none => exact nz qq
            | some u => rw [hk _ u qq n2] at z; cases z
/-! the def that asks -/
/-- try: a() / except C: return v / return n -/
def askE (tst : Nat → Option Bool) (dv dn : D) (ask : M D) : M D := fun S => match ask S with
  | .ok _ S' => .ok dn S'
  | .err k _ S' => (match tst k with
    | some true => .ok dv S'
    | _ => .stuck)
  | .stuck => .stuck
/-- try: return a() / except C: return v -/
def askR (tst : Nat → Option Bool) (dv : D) (ask : M D) : M D := fun S => match ask S with
  | .ok d S' => .ok d S'
  | .err k _ S' => (match tst k with
    | some true => .ok dv S'
    | _ => .stuck)
  | .stuck => .stuck
def TTe (K : PySem.W.Frag) (C : Addr) (v n : V) : (XK → Hp → VK → Prop) → Hp → VK → Prop := fun tl H Q =>
  tl (fun cls _ H' => ∃ b, PySem.W.exmOne K cls (.ref C) = some b ∧ (b = true → Q v H') ∧ (b = false → False)) H fun _ H' => Q n H'
def TTr (K : PySem.W.Frag) (C : Addr) (v : V) : (XK → Hp → VK → Prop) → Hp → VK → Prop := fun tl H Q =>
  tl (fun cls _ H' => ∃ b, PySem.W.exmOne K cls (.ref C) = some b ∧ (b = true → Q v H') ∧ (b = false → False)) H Q
section
variable {X : Cx} {Ng : List Str} {x a e q : Str} {sg : Scope} {g C : Addr} {cdg : Value} {p1 p2 p3 p4 p5 p6 p7 p8 p9 p0 : Pos} {v n : V} {cv cn : Expr}
theorem gives_e (hge : sg.names.lookup e = some .globalImplicit) (hme : X.mg e = some (.ref C)) (h0 : ∀ f : Addr, (L2.start Ng [V.ref f])[0]? = some (some (V.ref f))) (hv : ∀ Y, PE Y cv (tC v)) (hn : ∀ Y, PE Y cn (tC n)) (hde : (e == ("__debug__" : Str)) = false := by decide)
    (hsw : ∀ Y : Cx, swapsWith (.Call (.Name a p1) [] [] p2) none p3.line Y.env = pure false := by intro _; rfl) :
    GivesTo X Ng x sg g cdg [.Try [.Expr (.Call (.Name a p1) [] [] p2) p3] [.ExceptHandler (some (.Name e p4)) none [.Return (some cv) p6] p7] [] [] p8, .Return (some cn) p9] a q (TTe X.K C v n) := by
  intro f c' s H Q tl act hc h
  have hgl : Gl (cxOf C8.CX0 X.prog X.w X.K X.mg X.base Ng x sg g cdg X.A X.stack s H C8.E0).nox e := hge
  refine ⟨_, pss_cons (ps_try_only (X := (cxOf C8.CX0 X.prog X.w X.K X.mg X.base Ng x sg g cdg X.A X.stack s H C8.E0).nox) (c := .ref C)
      (tb := fun W D σ H => ∃ Ech : XK, (∀ cls d σ' H', Ech cls d H' → W cls d σ' H') ∧ σ[0]? = some (some (.ref f)) ∧ H c' = some (CodeO c' q) ∧ tl Ech H fun _ H' => D.nx σ H')
      rfl rfl ⟨hgl, hde, .inl hme⟩ L2.takes0 (fun W pn xe tk _ => ?_) (fun a oe cls d pn _ _ => pss_one (ps_ret (hv _)))) (pss_one (ps_ret (hn _))), ?_⟩
  · refine ⟨fun pins s' σ H' D I h' => ?_⟩
    obtain ⟨Ech, hW, h1, h2, h3⟩ := h'
    have hp := act W pn xe Ech p1 p2 tk hW
    have hq := pss_one (ps_expr (pos := p3) hp (hsw _))
    exact hq.run pins s' σ H' D I ⟨h1, h2, h3⟩
  · exact ⟨fun cls _ H' => ∃ b, PySem.W.exmOne X.K cls (.ref C) = some b ∧ (b = true → Q v H') ∧ (b = false → False), fun cls d σ' H' ⟨b, e1, e2, e3⟩ => ⟨b, e1, fun hb a _ => e2 hb, fun hb => e3 hb⟩, h0 f, hc, h⟩
theorem gives_r (hge : sg.names.lookup e = some .globalImplicit) (hme : X.mg e = some (.ref C)) (h0 : ∀ f : Addr, (L2.start Ng [V.ref f])[0]? = some (some (V.ref f))) (hv : ∀ Y, PE Y cv (tC v)) (hde : (e == ("__debug__" : Str)) = false := by decide) :
    GivesTo X Ng x sg g cdg [.Try [.Return (some (.Call (.Name a p1) [] [] p2)) p3] [.ExceptHandler (some (.Name e p4)) none [.Return (some cv) p6] p7] [] [] p8] a q (TTr X.K C v) := by
  intro f c' s H Q tl act hc h
  have hgl : Gl (cxOf C8.CX0 X.prog X.w X.K X.mg X.base Ng x sg g cdg X.A X.stack s H C8.E0).nox e := hge
  refine ⟨_, pss_one (ps_try_only (X := (cxOf C8.CX0 X.prog X.w X.K X.mg X.base Ng x sg g cdg X.A X.stack s H C8.E0).nox) (c := .ref C)
      (tb := fun W D σ H => ∃ Ech : XK, (∀ cls d σ' H', Ech cls d H' → W cls d σ' H') ∧ σ[0]? = some (some (.ref f)) ∧ H c' = some (CodeO c' q) ∧ tl Ech H D.rt)
      rfl rfl ⟨hgl, hde, .inl hme⟩ L2.takes0 (fun W pn xe tk _ => ?_) (fun a oe cls d pn _ _ => pss_one (ps_ret (hv _)))), ?_⟩
  · refine ⟨fun pins s' σ H' D I h' => ?_⟩
    obtain ⟨Ech, hW, h1, h2, h3⟩ := h'
    have hp := act W pn xe Ech p1 p2 tk hW
    have hq := pss_one (ps_ret (pos := p3) hp)
    exact hq.run pins s' σ H' D I ⟨h1, h2, h3⟩
  · exact ⟨fun cls _ H' => ∃ b, PySem.W.exmOne X.K cls (.ref C) = some b ∧ (b = true → Q v H') ∧ (b = false → False), fun cls d σ' H' ⟨b, e1, e2, e3⟩ => ⟨b, e1, fun hb a _ => e2 hb, fun hb => e3 hb⟩, h0 f, hc, h⟩
end
end Sm

/-! text: Sim46 -/
set_option Elab.async false
set_option linter.all false
set_option maxRecDepth 100000
set_option maxHeartbeats 2000000
namespace Sm
open PySem PySem.Spec PyProof.Rows L2 LamX
/-- the code object of the def at f -/
def cdA (K : PySem.W.Frag) (f : Addr) : Addr := match K.lookup f with
  | some ⟨_, _, .func fd, _⟩ => (match fd.code with
    | .ref c => c
    | _ => 0)
  | _ => 0
/-- .. its table -/
def tbA (K : PySem.W.Frag) (f : Addr) : Addr := He.tabOf K (cdA K f)
abbrev lamQ (qual : Str) : Str := qual ++ ".<locals>." ++ "<lambda>"
/-- what the lambdas in the def at f ask -/
structure LamT (c : Cf) (base : Heap) (mg : Str → Option Value) (f : Addr) (qual : Str) : Prop where
  tb : TabB base mg (cdA c.K f) (tbA c.K f)
  mem : (tbA c.K f, lamQ qual) ∈ c.tb
  uq : ∀ p ∈ c.tb, p.1 = tbA c.K f → p.2 = lamQ qual
section
variable {c : Cf} {P : Program} {w : World} {mg : Str → Option Value} {base : Heap} {x qual : Str} {params : Arguments} {body : List Stmt} {scope : Scope} {dvs : List V} {kws : List (Str × V)} {f : Addr} {fd : FuncData} {N ps : List Str} {k : Nat} {mb : Env → M Out}
theorem fnOkC_mk (F : FunD c.K x qual params body scope dvs kws f fd) (sc : FnScope N ps scope)
    (hbody : ∀ (cdv : Value) (hc : cdv = .ref (cdA c.K f)) (A : Around) (outer : List PySem.Env) (s : Shared) (H : Hp) (E : XK), Room k (A.deeper (envOfC qual scope s.heap.objs.size f cdv)) → SSs c (cxOf (L2.CX P w) P w c.K mg base N qual scope f cdv A outer s H E) E body mb) :
    FnOk P w c.K mg base (L2.CX P w) (k + 1) f fd ps (PromF c ps.length (fnM N.length mb)) := by
  obtain ⟨oc, od, dV, kV, doc, pm, an, cdv, ct, osl, rfl, lk, hcd, _, _⟩ := F.ex
  have hc : cdv = .ref (cdA c.K f) := by
    obtain ⟨a, rfl⟩ := He.codeIn_ref hcd
    unfold cdA
    rw [lk]
  refine fn_of lk hcd sc (fun vs H Q E h => h.len) fun A outer s H vs Q E hr h => ⟨_, (hbody cdv hc A outer s H E hr).p, ?_⟩
  obtain ⟨Ψ, S, ds, so, r, l, q⟩ := h
  refine ⟨⟨Ψ, H, 0⟩, Ψ, _, S, fun _ => [], ⟨Ext.refl _ _, so, env_start r, fun _ _ h => (by cases h), fun k fs h => (env_no h).elim⟩, (Post.bd q).mono fun o S' q' => ?_⟩
  cases o with
  | nx ρ => exact fun Ψ' σ' H' F' g => q' Ψ' .non H' g.x g.so .non
  | ret d => exact q'
  | bk ρ => exact q'.elim
  | ct ρ => exact q'.elim
theorem fnC_mk (F : FunD c.K x qual params body scope dvs kws f fd) (sc : FnScope N ps scope) (hb : Binds c.K fd ps [])
    (hbody : ∀ (cdv : Value) (hc : cdv = .ref (cdA c.K f)) (A : Around) (outer : List PySem.Env) (s : Shared) (H : Hp) (E : XK), Room k (A.deeper (envOfC qual scope s.heap.objs.size f cdv)) → SSs c (cxOf (L2.CX P w) P w c.K mg base N qual scope f cdv A outer s H E) E body mb) :
    Fn c P w mg base (k + 1) f ps.length (fnM N.length mb) := by
  refine ⟨?_, F.kp⟩
  have q := (fnOkC_mk F sc hbody).raw hb .nil
  exact q.imp fun vs H Q E h => by rw [List.append_nil]; exact h
/-- what leaves a lambda is taken -/
theorem tk_lam {X : Cx} {A : Around} {outer : List PySem.Env} {s : Shared} {H : Hp} {E : XK} {scope : Scope} {f c' : Addr} : Takes (lamCx X A outer s H E scope f c') (wx (cW E)) := takes_of rfl rfl rfl rfl
end
section
variable {c : Cf} {X : Cx} {W : L2.St → XK} {x a qual : Str} {g f C : Addr} {fd : FuncData} {pg : Arguments} {bg : List Stmt} {sg : Scope} {Ng : List Str} {k : Nat} {params : Arguments} {body : Expr} {scope : Scope} {p lpos pos : Pos} {v n : V} {dv dn : D} {tst : Nat → Option Bool} {mb : Env → M D}
theorem lam_mid {TT : V → (XK → Hp → VK → Prop) → Hp → VK → Prop} (F : FunD c.K x x pg bg sg [] [] g fd) (hb : Binds c.K fd [a] []) (Sg : FnScope Ng [a] sg) (hm : X.mg x = some (.ref g)) (hk : X.K = c.K)
    (hG : ∀ cdv, GivesTo X Ng x sg g cdv bg a (X.env.qual ++ "<lambda>") (TT v)) (T : LamT c X.base X.mg f qual) (hcode : X.env.code = .ref (cdA c.K f)) (hq : X.env.qual = qual ++ ".<locals>.") (hr : Room (k + 2) X.A) (L : LamS X.env.scope scope)
    (hbody : ∀ (A : Around) (outer : List PySem.Env) (s : Shared) (H : Hp) (E : XK) (f c' : Addr), Room k (A.deeper (lamEnv X scope s.heap.objs.size f c')) → SE c (lamCx X A outer s H E scope f c') (cW E) body mb)
    (hg : Gl X x) (hNg : Ng[0]? = some a) (hva : Vis sg a) (hdef : defaultsOf params X.env = ([], [])) (hbind : ∀ (q : Str) (cl : List (Str × Addr)) (pm cv ctv : Value), bindArgs (PySem.W.kla_fn "<lambda>" q params body scope cl pm cv ctv) ⟨[], []⟩ = pure [])
    (hdb : (x == ("__debug__" : Str)) = false) (hd : (a == ("__debug__" : Str)) = false) (hcd : (a == ("__classdict__" : Str)) = false) (m : Env → M D)
    (hTT : ∀ (σ : L2.St) (H H1 : Hp) (Q : VK) (Ψ Ψ1 : Wd) (ρ : Env) (S : Sto) (Fo : Nat → List Addr), Ext Ψ H Ψ1 H1 → StoOk c Ψ1 H1 S → EnvOk c Ψ1 σ ρ H1 Fo → Post c (W σ) Ψ H (m ρ S) (fun d S' => ∀ Ψ' v H', Ext Ψ H Ψ' H' → StoOk c Ψ' H' S' → Rep c Ψ' v d → Q v H') → TT v (fun E H' Q' => rE c (cW E) mb σ H' Q') H1 Q) :
    SE c X W (.Call (.Name x p) [.Lambda params body scope lpos] [] pos) m := by
  obtain ⟨oc, od, dV, kV, doc, pm, an, cdv, ct, osl, rfl, lk, hcg, _, _⟩ := F.ex
  refine ⟨hk, PE.imp (pe_lamcall3 (t := fun E => rE c (cW E) mb) (P := tbA c.K f) hg hm (by rw [hk]; exact F.kp) (by rw [hk]; exact lk) (by rw [hk]; exact hcg) (by rw [hk]; exact hb) Sg hNg hva (hG cdv) T.tb hcode hr L hdef hbind
    (fun A outer s H E f c' hr => (hbody A outer s H E f c' hr).p) hdb hd hcd) fun σ H Q ⟨Ψ, ρ, S, Fo, so, eo, q⟩ => ?_⟩
  obtain ⟨ps, h1, h2, h3⟩ := so.tab _ (by rw [so.tbc]; exact T.mem)
  have eq : X.env.qual ++ "<lambda>" = lamQ qual := by rw [hq]
  rw [eq]
  refine ⟨ps, h1, h2, fun pos cv hc => let ⟨a, e1, e2⟩ := h3 pos cv hc; ⟨a, e1, so.phi _ _ e2⟩, fun H1 hgr => ?_⟩
  obtain ⟨Ψ1, x1, s1⟩ := grow_ok so T.mem T.uq h1 h3 hgr
  exact hTT σ H H1 Q Ψ Ψ1 ρ S Fo x1 s1 (eo.ext x1) q
/-- f(lambda: e), f: try: a() / except C: return v / return n -/
theorem se_lamE (F : FunD c.K x x pg bg sg [] [] g fd) (hb : Binds c.K fd [a] []) (Sg : FnScope Ng [a] sg) (hm : X.mg x = some (.ref g)) (hk : X.K = c.K)
    (hG : ∀ cdv, GivesTo X Ng x sg g cdv bg a (X.env.qual ++ "<lambda>") (TTe X.K C v n)) (rv : ∀ Ψ, Rep c Ψ v dv) (rn : ∀ Ψ, Rep c Ψ n dn) (hx : TstOk c C tst) (T : LamT c X.base X.mg f qual) (hcode : X.env.code = .ref (cdA c.K f)) (hr : Room (k + 2) X.A) (L : LamS X.env.scope scope)
    (hbody : ∀ (A : Around) (outer : List PySem.Env) (s : Shared) (H : Hp) (E : XK) (f c' : Addr), Room k (A.deeper (lamEnv X scope s.heap.objs.size f c')) → SE c (lamCx X A outer s H E scope f c') (cW E) body mb)
    (hq : X.env.qual = qual ++ ".<locals>." := by rfl) (hg : Gl X x := by rfl) (hNg : Ng[0]? = some a := by rfl) (hva : Vis sg a := by first | exact Or.inl rfl | exact Or.inr (Or.inl rfl) | exact Or.inr (Or.inr rfl)) (hdef : defaultsOf params X.env = ([], []) := by rfl) (hbind : ∀ (q : Str) (cl : List (Str × Addr)) (pm cv ctv : Value), bindArgs (PySem.W.kla_fn "<lambda>" q params body scope cl pm cv ctv) ⟨[], []⟩ = pure [] := by intros; rfl)
    (hdb : (x == ("__debug__" : Str)) = false := by decide) (hd : (a == ("__debug__" : Str)) = false := by decide) (hcd : (a == ("__classdict__" : Str)) = false := by decide) :
    SE c X W (.Call (.Name x p) [.Lambda params body scope lpos] [] pos) (fun ρ => askE tst dv dn (mb ρ)) := by
  refine lam_mid (TT := fun v => TTe X.K C v n) F hb Sg hm hk hG T hcode hq hr L hbody hg hNg hva hdef hbind hdb hd hcd _ fun σ H H1 Q Ψ Ψ1 ρ S Fo x1 s1 e1 q => ?_
  refine ⟨Ψ1, ρ, S, Fo, s1, e1, ?_⟩
  have q' := Post.ext x1 q
  unfold askE at q'
  cases z : mb ρ S with
  | ok d S' =>
    rw [z] at q'
    exact fun Ψ' u H' x2 s2 _ => q' Ψ' _ H' (x1.trans x2) s2 (rn Ψ')
  | err kk fs S' =>
    rw [z] at q'
    dsimp only at q'
    cases t : tst kk with
    | none => rw [t] at q'; exact q'.elim
    | some b =>
      rw [t] at q'
      cases b with
      | false => exact q'.elim
      | true => exact fun Ψ' d H' x2 s2 _ => ⟨true, by rw [hk]; exact hx kk true t, fun _ => q' Ψ' _ H' (x1.trans x2) s2 (rv Ψ'), fun h => by cases h⟩
  | stuck => rw [z] at q'; exact q'.elim
/-- f(lambda: e), f: try: return a() / except C: return v -/
theorem se_lamR (F : FunD c.K x x pg bg sg [] [] g fd) (hb : Binds c.K fd [a] []) (Sg : FnScope Ng [a] sg) (hm : X.mg x = some (.ref g)) (hk : X.K = c.K)
    (hG : ∀ cdv, GivesTo X Ng x sg g cdv bg a (X.env.qual ++ "<lambda>") (TTr X.K C v)) (rv : ∀ Ψ, Rep c Ψ v dv) (hx : TstOk c C tst) (T : LamT c X.base X.mg f qual) (hcode : X.env.code = .ref (cdA c.K f)) (hr : Room (k + 2) X.A) (L : LamS X.env.scope scope)
    (hbody : ∀ (A : Around) (outer : List PySem.Env) (s : Shared) (H : Hp) (E : XK) (f c' : Addr), Room k (A.deeper (lamEnv X scope s.heap.objs.size f c')) → SE c (lamCx X A outer s H E scope f c') (cW E) body mb)
    (hq : X.env.qual = qual ++ ".<locals>." := by rfl) (hg : Gl X x := by rfl) (hNg : Ng[0]? = some a := by rfl) (hva : Vis sg a := by first | exact Or.inl rfl | exact Or.inr (Or.inl rfl) | exact Or.inr (Or.inr rfl)) (hdef : defaultsOf params X.env = ([], []) := by rfl) (hbind : ∀ (q : Str) (cl : List (Str × Addr)) (pm cv ctv : Value), bindArgs (PySem.W.kla_fn "<lambda>" q params body scope cl pm cv ctv) ⟨[], []⟩ = pure [] := by intros; rfl)
    (hdb : (x == ("__debug__" : Str)) = false := by decide) (hd : (a == ("__debug__" : Str)) = false := by decide) (hcd : (a == ("__classdict__" : Str)) = false := by decide) :
    SE c X W (.Call (.Name x p) [.Lambda params body scope lpos] [] pos) (fun ρ => askR tst dv (mb ρ)) := by
  refine lam_mid (TT := fun v => TTr X.K C v) F hb Sg hm hk hG T hcode hq hr L hbody hg hNg hva hdef hbind hdb hd hcd _ fun σ H H1 Q Ψ Ψ1 ρ S Fo x1 s1 e1 q => ?_
  refine ⟨Ψ1, ρ, S, Fo, s1, e1, ?_⟩
  have q' := Post.ext x1 q
  unfold askR at q'
  cases z : mb ρ S with
  | ok d S' =>
    rw [z] at q'
    exact fun Ψ' u H' x2 s2 r2 => q' Ψ' _ H' (x1.trans x2) s2 r2
  | err kk fs S' =>
    rw [z] at q'
    dsimp only at q'
    cases t : tst kk with
    | none => rw [t] at q'; exact q'.elim
    | some b =>
      rw [t] at q'
      cases b with
      | false => exact q'.elim
      | true => exact fun Ψ' d H' x2 s2 _ => ⟨true, by rw [hk]; exact hx kk true t, fun _ => q' Ψ' _ H' (x1.trans x2) s2 (rv Ψ'), fun h => by cases h⟩
  | stuck => rw [z] at q'; exact q'.elim
end
end Sm

/-! text: Sim47 -/
set_option Elab.async false
set_option linter.all false
set_option maxRecDepth 100000
set_option maxHeartbeats 2000000
namespace Sm
open PySem PySem.Spec PyProof.Rows L2
/-! ### zip of two lists, of two tuples -/
def zipL : List D → List D → List D
  | x :: xs, y :: ys => .tup [x, y] :: zipL xs ys
  | _, _ => []
theorem zipL_len : ∀ (xs ys : List D), (zipL xs ys).length = min xs.length ys.length
  | [], _ => by simp [zipL]
  | _ :: _, [] => by simp [zipL]
  | x :: xs, y :: ys => by
    have := zipL_len xs ys
    simp only [zipL, List.length_cons]
    omega
theorem zipL_get : ∀ {i : Nat} {xs ys : List D} {d : D}, (zipL xs ys)[i]? = some d → ∃ x y, xs[i]? = some x ∧ ys[i]? = some y ∧ d = .tup [x, y]
  | _, [], _, _, h => by simp [zipL] at h
  | _, _ :: _, [], _, h => by simp [zipL] at h
  | 0, x :: xs, y :: ys, d, h => ⟨x, y, rfl, rfl, by simp [zipL] at h; exact h.symm⟩
  | i + 1, x :: xs, y :: ys, d, h => by
    obtain ⟨a, b, h1, h2, h3⟩ := zipL_get (i := i) (xs := xs) (ys := ys) (d := d) (by simpa [zipL] using h)
    exact ⟨a, b, by simpa using h1, by simpa using h2, h3⟩
theorem walk_zipL {K : PySem.W.Frag} {a b : Addr} {xs ys : List V} : Walk (Itz K a b) (min xs.length ys.length) (fun H => SqL K H a xs ∧ SqL K H b ys) (YPair (fun i => xs[i]?) (fun i => ys[i]?)) := by
  refine ⟨fun i _ hi q => ⟨xs, ys, xs[i]'(by omega), ys[i]'(by omega), q.1, q.2, by simp, by simp⟩, fun _ q => ⟨xs, ys, q.1, q.2, by omega⟩, fun i H v H' _ q y => ?_⟩
  obtain ⟨T, x, z, h1, h2, h3, h4, h5⟩ := y
  exact ⟨T, x, z, h1, h2, h3, h4 xs q.1, h5 ys q.2⟩
theorem walk_zipT {K : PySem.W.Frag} {a b : Addr} {xs ys : List V} : Walk (RZ.ItzT K a b) (min xs.length ys.length) (fun H => SqT K H a xs ∧ SqT K H b ys) (YPair (fun i => xs[i]?) (fun i => ys[i]?)) := by
  refine ⟨fun i _ hi q => ⟨xs, ys, xs[i]'(by omega), ys[i]'(by omega), q.1, q.2, by simp, by simp⟩, fun _ q => ⟨xs, ys, q.1, q.2, by omega⟩, fun i H v H' _ q y => ?_⟩
  obtain ⟨T, x, z, h1, h2, h3, h4, h5⟩ := y
  exact ⟨T, x, z, h1, h2, h3, h4 xs q.1, h5 ys q.2⟩
def zipM (x y : D) : M (List D) := fun S => match x, y with
  | .lst xs, .lst ys => .ok (zipL xs ys) S
  | .tup xs, .tup ys => .ok (zipL xs ys) S
  | _, _ => .stuck
section
variable {c : Cf} {X : Cx} {W : L2.St → XK} {tg e e2 a b : Expr} {pos p tpos : Pos} {elts : List Expr} {kk : Nat}
theorem si_zip {m m2 : Env → M D} (h : SE c X W e m) (h2 : SE c X W e2 m2) (hm : X.mg "zip" = none) (hg : Gl X "zip" := by rfl) (hs : starEach [e, e2] X.env = (false, eval e X.env) :: starEach [e2] X.env := by rfl) (hs2 : starEach [e2] X.env = (false, eval e2 X.env) :: starEach [] X.env := by rfl) (hpl : (backTo pos (starEach [e2] X.env)).any (·.1) = false := by rfl) :
    SI c X W (.Tuple elts kk tpos) (.Call (.Name "zip" p) [e, e2] [] pos) (fun ρ => bd (m ρ) fun x => bd (m2 ρ) fun y => zipM x y) := by
  have ha : PA X [e, e2] (rA c W fun ρ => consM (m ρ) (consM (m2 ρ) (rt []))) := (sa_cons h (sa_cons h2 (sa_nil h.k) (by rw [hs2])) (by rw [hs])).p
  refine ⟨h.k, PI.imp (RZ.pi_zipA hg hm ha hs hpl) fun σ H R ⟨Ψ, ρ, S, F, so, eo, q⟩ => ?_⟩
  refine ⟨Ψ, ρ, S, F, so, eo, ?_⟩
  unfold consM
  have q' := q.bd
  show Post c (W σ) Ψ H (bd (m ρ) (fun x => bd (bd (m2 ρ) fun x => bd (rt []) fun xs => rt (x :: xs)) fun xs => rt (x :: xs)) S) _
  unfold bd
  cases z : m ρ S with
  | stuck => rw [z] at q'; exact q'.elim
  | err k fs S1 => rw [z] at q'; exact q'
  | ok d S1 =>
    rw [z] at q'
    have q1 := (show Post c (W σ) Ψ H (bd (m2 ρ) (fun y => zipM d y) S1) _ from q').bd
    dsimp only
    cases z2 : m2 ρ S1 with
    | stuck => rw [z2] at q1; exact q1.elim
    | err k fs S2 => rw [z2] at q1; exact q1
    | ok d2 S2 =>
      rw [z2] at q1
      have q3 : Post c (W σ) Ψ H (zipM d d2 S2) _ := q1
      show ∀ Ψ' vs H', _ → _ → _ → _
      intro Ψ1 vs H1 x1 s1 r1
      cases r1 with
      | cons r1 t =>
        cases t with
        | cons r2 t =>
          cases t
          have go : ∀ {xs ys : List V} {ds es : List D} {J : It} {G : Hp → Prop}, xs.length ≤ LIM → Reps c Ψ1 xs ds → Reps c Ψ1 ys es → Walk J (min xs.length ys.length) G (YPair (fun i => xs[i]?) (fun i => ys[i]?)) → (∀ Ψ S H, Le Ψ1 Ψ → StoOk c Ψ H S → G H) → ItOk c (fun Ψ2 _ => Le Ψ1 Ψ2) J (zipL ds es) := fun {xs ys ds es J G} l r r' wk hG => by
            refine ⟨by rw [zipL_len, ← r.length]; omega, G, _, by rw [zipL_len, ← r.length, ← r'.length]; exact wk, hG, fun i H2 v H3 Ψ2 S2 d2 l2 s2 hd y => ?_⟩
            obtain ⟨x, y', hx, hy, e⟩ := zipL_get hd
            obtain ⟨T, y1, y2, e1, e2, e3, e4, e5⟩ := y
            obtain ⟨x', h1, h1'⟩ := r.get hx
            obtain ⟨y'', h3, h3'⟩ := r'.get hy
            have e4' : xs[i]? = some y1 := e4
            have e5' : ys[i]? = some y2 := e5
            rw [e4'] at h1; cases h1
            rw [e5'] at h3; cases h3
            subst e e1 e3
            exact pair_new s2 e2 (h1'.mono l2) (h3'.mono l2)
          unfold zipM at q3
          split at q3
          · cases r1 with
            | lst h1 l1 r1 =>
              cases r2 with
              | lst h3 l3 r3 => exact ⟨_, _, _, _, rfl, .inl ⟨SqL.of (s1.phi _ _ h1), SqL.of (s1.phi _ _ h3), q3 Ψ1 _ H1 x1 s1 (go l1 r1 r3 walk_zipL fun Ψ S H l s => ⟨SqL.of (s.phi _ _ (l.phi _ _ h1)), SqL.of (s.phi _ _ (l.phi _ _ h3))⟩)⟩⟩
          · cases r1 with
            | tup h1 l1 r1 =>
              cases r2 with
              | tup h3 l3 r3 => exact ⟨_, _, _, _, rfl, .inr ⟨by rw [h.k]; exact sqT_phi s1 h1, by rw [h.k]; exact sqT_phi s1 h3, q3 Ψ1 _ H1 x1 s1 (go l1 r1 r3 walk_zipT fun Ψ S H l s => ⟨by rw [h.k]; exact sqT_phi s (l.sqT h1), by rw [h.k]; exact sqT_phi s (l.sqT h3)⟩)⟩⟩
          · exact q3.elim
end
/-! ### own operators of two instances -/
section
variable {X : Cx} {C g : Addr} {n : Nat} {sp : Sp} {E : XK} {CX : CXT}
def rBin (C : Addr) (sp : Sp) (E : XK) : R2 := fun x y H Q => ∃ a dx vs b dy ws, x = .ref a ∧ y = .ref b ∧ SlX.Slt H a C dx vs ∧ SlX.Slt H b C dy ws ∧ sp [x, y] H Q E
theorem op_bin {op : Operator} (hc : PySem.W.selfFirst X.K C = true) (hs : PySem.W.findIn X.K (.ref C) (PySem.dunder op.info.2) = some (some (.ref g))) (hf : PySem.W.isFn X.K (.ref g) = true) (F : FnR X.prog X.w X.K X.mg X.base CX n g sp)
    (hr : Room n X.A) (hx : Passes CX X E) : OpR X (binaryOp op) (rBin C sp E) := by
  intro pins s σ H x y v u Q I rx ry h
  obtain ⟨a, dx, vs, b, dy, ws, rfl, rfl, ha, hb, q⟩ := h
  cases (show v = Value.ref a from rx)
  cases (show u = Value.ref b from ry)
  obtain ⟨sl, od, _, J, _⟩ := SlX.slt_inst I ha
  obtain ⟨sl', od', _, J', _⟩ := SlX.slt_inst I hb
  obtain ⟨m, hF⟩ := I.fr
  refine PySem.W.binop_K hF I.ok.mod.kin J J'.type hc hs hf ?_
  refine wpAny_mono (wpAny_call (run_fnR (us := [.ref a, .ref b]) (vs := [.ref a, .ref b]) F hr hx I (.cons rfl (.cons rfl .nil)) q)) (fun w s' z => ?_) fun _ _ x => x
  obtain ⟨z', H', I', rz, qz⟩ := z
  exact SlX.cmpback rz ⟨z', H', I', rz, qz⟩
end
section
variable {c : Cf} {X : Cx} {E : XK} {a b : Expr} {ma mb : Env → M D} {g : Addr} {n nn k : Nat} {m : List D → M D} {pos : Pos}
/-- a op b, op a comparison; a's class is known, b is some instance -/
theorem se_cmpA {op : CmpOp} {nm : Str} (hop : ∀ a b, compareOp op a b = richCompare op a b) (hnm : (cmpInfo op).2.1 = nm) (C : CF c nn) (hk : k < nn) (ha : SE c X (cW E) a ma) (hb : SE c X (cW E) b mb) (t : Meth c.K (c.cls k) nm g) (G : Fn c X.prog X.w X.mg X.base n g 2 m) (hr : Room n X.A) (tk : Takes X (wx (cW E)))
    (hm : behindInMarks op b = false := by first | exact nomark _ (by decide) (by decide) | rfl) :
    SE c X (cW E) (.Compare a [op] [b] pos) (fun ρ => bd (ma ρ) fun x => bd (mb ρ) fun y => bd (insM k x) fun x => bd (anyM nn y) fun y => callM 2 m [x, y]) := by
  subst hnm
  have G' : FnR X.prog X.w X.K X.mg X.base (L2.CX X.prog X.w) n g (PromF c 2 m) := by rw [ha.k]; exact G.r
  refine ⟨ha.k, PE.imp (pe_cmpR (SlX.op_own (op := op) (C := c.cls k) hop (by rw [ha.k]; exact t.at_) (by rw [ha.k]; exact t.fn) G' hr (passes_wx tk)) ha.p hb.p hm) fun σ H Q ⟨Ψ, ρ, S, F, so, eo, q⟩ => ⟨Ψ, ρ, S, F, so, eo, q.bd.mono fun x S1 q1 Ψ1 v H1 x1 s1 r1 => ?_⟩⟩
  refine ⟨Ψ1, ρ, S1, F, s1, eo.ext x1, (Post.bd (Post.ext x1 q1)).mono fun y S2 q2 Ψ2 u H2 x2 s2 r2 => ?_⟩
  have q3 := q2.bd
  unfold insM at q3
  split at q3
  · split at q3
    · rename_i _ fs _ ek _
      subst ek
      have q4 := (show Post c (cW E σ) Ψ1 H1 (bd (anyM nn y) (fun y => callM 2 m [.ins _ fs, y]) S2) _ from q3).bd
      unfold anyM at q4
      split at q4
      · split at q4
        · rename_i j gs hj
          have q5 : Post c E Ψ1 H1 (callM 2 m [.ins _ fs, .ins _ gs] S2) _ := q4
          cases r1 with
          | ins h0 r0 =>
            cases r2 with
            | ins h0' r0' =>
              have h0k := x2.le.slt h0
              refine ⟨_, _, _, _, _, _, _, rfl, rfl, slt_phi s2 h0k, slt_phi s2 h0', by rw [ha.k]; exact C.nf hk hj, ?_⟩
              exact prom_of (E := E) (ds := [.ins _ fs, .ins _ gs]) s2 (.cons (.ins h0k (r0.mono x2.le)) (.cons (.ins h0' r0') .nil)) (q5.ext x2) fun d' S' Ψ' v H' q6 e2 s3 r3 => q6 Ψ' v H' ((x1.trans x2).trans e2) s3 r3
        · exact q4.elim
      · exact q4.elim
    · exact q3.elim
  · exact q3.elim
/-- a op b, both of one class with its own op -/
theorem se_binA {op : Operator} {nm : Str} (hnm : PySem.dunder op.info.2 = nm) (hsf : PySem.W.selfFirst c.K (c.cls k) = true) (ha : SE c X (cW E) a ma) (hb : SE c X (cW E) b mb) (t : Meth c.K (c.cls k) nm g) (G : Fn c X.prog X.w X.mg X.base n g 2 m) (hr : Room n X.A) (tk : Takes X (wx (cW E))) :
    SE c X (cW E) (.BinOp a op b pos) (fun ρ => bd (ma ρ) fun x => bd (mb ρ) fun y => bd (insM k x) fun x => bd (insM k y) fun y => callM 2 m [x, y]) := by
  subst hnm
  have G' : FnR X.prog X.w X.K X.mg X.base (L2.CX X.prog X.w) n g (PromF c 2 m) := by rw [ha.k]; exact G.r
  refine ⟨ha.k, PE.imp (pe_op (op_bin (op := op) (C := c.cls k) (by rw [ha.k]; exact hsf) (by rw [ha.k]; exact t.at_) (by rw [ha.k]; exact t.fn) G' hr (passes_wx tk)) ha.p hb.p) fun σ H Q ⟨Ψ, ρ, S, F, so, eo, q⟩ => ⟨Ψ, ρ, S, F, so, eo, q.bd.mono fun x S1 q1 Ψ1 v H1 x1 s1 r1 => ?_⟩⟩
  refine ⟨Ψ1, ρ, S1, F, s1, eo.ext x1, (Post.bd (Post.ext x1 q1)).mono fun y S2 q2 Ψ2 u H2 x2 s2 r2 => ?_⟩
  have q3 := q2.bd
  unfold insM at q3
  split at q3
  · split at q3
    · rename_i _ fs _ ek _
      subst ek
      have q4 := (show Post c (cW E σ) Ψ1 H1 (bd (insM _ y) (fun y => callM 2 m [.ins _ fs, y]) S2) _ from q3).bd
      unfold insM at q4
      split at q4
      · split at q4
        · rename_i _ gs _ hj _
          subst hj
          have q5 : Post c E Ψ1 H1 (callM 2 m [.ins _ fs, .ins _ gs] S2) _ := q4
          cases r1 with
          | ins h0 r0 =>
            cases r2 with
            | ins h0' r0' =>
              have h0k := x2.le.slt h0
              refine ⟨_, _, _, _, _, _, rfl, rfl, slt_phi s2 h0k, slt_phi s2 h0', ?_⟩
              exact prom_of (E := E) (ds := [.ins _ fs, .ins _ gs]) s2 (.cons (.ins h0k (r0.mono x2.le)) (.cons (.ins h0' r0') .nil)) (q5.ext x2) fun d' S' Ψ' v H' q6 e2 s3 r3 => q6 Ψ' v H' ((x1.trans x2).trans e2) s3 r3
        · exact q4.elim
      · exact q4.elim
    · exact q3.elim
  · exact q3.elim
end
end Sm

/-! text: Sim49 -/
set_option Elab.async false
set_option linter.all false
set_option maxRecDepth 100000
set_option maxHeartbeats 1000000
namespace Sm
open PySem PySem.Spec PyProof.Rows L2
/-- a, b, .. = a list of that length -/
def asgL (is : List Nat) (m : Env → M D) : Env → M Out := fun ρ => bd (m ρ) fun d => match d with
  | .lst ds => (match Nat.decEq ds.length is.length with
    | .isTrue _ => rt (.nx (setsE ρ is ds))
    | .isFalse _ => stk)
  | _ => stk
theorem ss_asgL {c : Cf} {X : Cx} {W : XK} {pos tpos : Pos} {e : Expr} {m : Env → M D} {es : List Expr} {k : Nat} {is : List Nat} (h : SE c X (cW W) e m) (ht : SGs X es is)
    (hc : X.calm = true := by rfl) (hn : (assignEach es X.env).length = is.length := by rfl) (hst : (assignEach es X.env).findIdx? (·.1) = none := by rfl)
    (hs : swapsWithSole [.Tuple es k tpos] e pos.line X.env = pure false := by rfl) (hw : swappedStores [.Tuple es k tpos] e X.env = pure none := by rfl)
    (h1 : (assignEach [.Tuple es k tpos] X.env).map (·.2) = [assign (.Tuple es k tpos) X.env] := by rfl) : SS c X W (.Assign [.Tuple es k tpos] e pos) (asgL is m) := by
  refine ⟨h.k, PS.imp (ps_asg h.p (pg_lst hc ht.p hn hst) hs hw h1) fun D σ H ⟨B, Ψ, ρ, S, F, g, q⟩ => ⟨Ψ, ρ, S, F, g.so, g.eo, (q.bd.ext g.x).mono fun d S1 q1 Ψ1 v H1 x1 s1 r1 => ?_⟩⟩
  cases d with
  | lst ds =>
    cases r1 with
    | lst h0 l0 r0 =>
      have q2 : Post c W B.wd B.H ((match Nat.decEq ds.length is.length with
        | .isTrue _ => rt (.nx (setsE ρ is ds))
        | .isFalse _ => stk : M Out) S1) (OutP c B D) := q1
      clear q1
      cases hd : Nat.decEq ds.length is.length with
      | isTrue hl =>
        rw [hd] at q2
        have g1 := g.ext x1 s1
        obtain ⟨F', e', sb, k'⟩ := EnvOk.sets (is := is) g1.eo r0
        have hl' := r0.length
        exact ⟨_, _, rfl, .inl (.inl (s1.phi _ _ h0)), by rw [hl']; exact hl, by rw [hl']; exact hl, q2 Ψ1 _ H1 F' (g1.keep0 e' sb k')⟩
      | isFalse _ =>
        rw [hd] at q2
        exact q2.elim
  | _ => exact q1.elim
end Sm

/-! text: Sim50 -/
set_option Elab.async false
set_option linter.all false
set_option maxRecDepth 100000
set_option maxHeartbeats 1000000
namespace Sm
open PySem PySem.Spec PyProof.Rows L2
/-! ### own exceptions: def __init__(self, x): super().__init__('..'); self.f = x -/
/-- the body of such an __init__ -/
abbrev xiBody (sn xn f m : Str) (j : Nat) (p0 p1 p2 p3 p4 p5 p6 p7 p8 p9 : Pos) : List Stmt :=
  [.Expr (.Call (.Attribute (.Call (.Name "super" p0) [] [] p1) "__init__" p2) [.Constant (.str m) j p3] [] p4) p5, .Assign [.Attribute (.Name sn p6) f p7] (.Name xn p8) p9]
/-- what the rows' places ask -/
structure XiPos (env : PySem.Env) (sn xn f m : Str) (j : Nat) (p0 p1 p2 p3 p4 p5 p6 p7 p8 p9 : Pos) : Prop where
  hi : interactive env = false
  s1 : swapsWith (.Call (.Attribute (.Call (.Name "super" p0) [] [] p1) "__init__" p2) [.Constant (.str m) j p3] [] p4) none p5.line env = pure false
  s2 : swapsWith (.Name xn p8) (some (.Attribute (.Name sn p6) f p7)) p9.line env = pure false
/-- how the first row is read -/
def xiRead (env : PySem.Env) (m : Str) (j : Nat) (p0 p1 p2 p3 p4 : Pos) (pl : Sem Bool) : Prop := eval (.Call (.Attribute (.Call (.Name "super" p0) [] [] p1) "__init__" p2) [.Constant (.str m) j p3] [] p4) env = (do
  let ov ← attributeBase (.Call (.Name "super" p0) [] [] p1) "__init__" env (eval (.Call (.Name "super" p0) [] [] p1) env)
  standAt p2.atName
  let (f, first) ← holding [ov] (getMethod ov "__init__" pl)
  callWith p4 f first (backTo p4 (starEach [.Constant (.str m) j p3] env)) [])
/-- what the written part says of the class and of its __init__ -/
structure XiC (P : Program) (K : PySem.W.Frag) (mg : Str → Option Value) (C fI : Addr) (f : Str) (qual : Str) (fd : FuncData) (sn xn : Str) (cda cc : Addr) : Prop where
  T : OexC K C
  su : PySem.W.ks_superIn K C C "__init__" = some (some (.builtin "ValueError.__init__"))
  ei : PySem.W.excInitIn K C [.type "ValueError", .type "Exception", .type "BaseException", .type "object"] "ValueError.__new__" = true
  sv : PySem.W.subIn K (.ref C) (.type "ValueError") = some true
  sm : PySem.W.mroIn K C (.ref C) = some true
  no : PySem.W.findIn K (.ref C) f = some none
  op : PySem.W.nsIn K cStatics "thirdparty.any" = some none
  s0 : mg "super" = none
  ic : PySem.W.findIn K (.ref C) "__init__" = some (some (.ref fI))
  ti : PySem.W.typeIn K (.ref fI) = some (.type "function")
  fn : ∃ oc od osl, K.lookup fI = some ⟨oc, od, .func fd, osl⟩
  sh : ∃ name params scope dV kV doc pm an ct m j p0 p1 p2 p3 p4 p5 p6 p7 p8 p9, fd = PySem.W.ksFn name qual params (xiBody sn xn f m j p0 p1 p2 p3 p4 p5 p6 p7 p8 p9) scope dV kV doc pm an (.ref cda) ct cc ∧
    (∃ ar, (params.posonlyargs ++ params.args).head? = some ar ∧ ar.arg = sn) ∧ scope.names.lookup ("super" : Str) = some .globalImplicit ∧ scope.names.lookup ("__class__" : Str) = some .free ∧ scope.names.lookup sn = some .local ∧ scope.names.lookup xn = some .local ∧
    scope.kind = .function ∧ (∀ x ∈ scope.names, x.2 ≠ .cell) ∧ scope.isCoroutine = false ∧ scope.isGenerator = false ∧ ∀ L, XiPos (callEnv fd L fI) sn xn f m j p0 p1 p2 p3 p4 p5 p6 p7 p8 p9 ∧ ∃ pl, xiRead (callEnv fd L fI) m j p0 p1 p2 p3 p4 pl
  bd : L2.Binds K fd [sn, xn] []
  ne : sn ≠ xn ∧ (sn == ("__debug__" : Str)) = false ∧ (xn == ("__debug__" : Str)) = false
  co : PySem.W.codeIn K (.ref cda) qual = true
  cd : ∃ ccl cdd vs ccs file tf, K.lookup cda = some ⟨ccl, cdd, .fields vs, ccs⟩ ∧ vs[2]? = some (.str file tf) ∧ ((P.main.file : Str) == file) = true
  cl : ∃ cl cld csl, K.lookup cc = some ⟨cl, cld, .cell (some (.ref C)), csl⟩
  tp : (P.main.scope.names.lookup ("super" : Str)).isSome = false
theorem boot_super : bootBuiltins "super" = some (.type "super") := by kernel_rfl
section
variable {P : Program} {w : World} {K : PySem.W.Frag} {mg : Str → Option Value} {C fI : Addr} {f qual sn xn : Str} {fd : FuncData} {cda cc : Addr}
/-- the end of such an __init__: the exception bears its dict -/
def XiEnd (s : Shared) (C a : Addr) (f : Str) (u : Value) (R : Result → Shared → Prop) : Prop := ∀ (h' : Heap) (tk : Nat) (t1 dx : Addr), (∀ b o, b ≠ a → s.heap.get? b = some o → h'.get? b = some o) → s.heap.objs.size ≤ dx → dx ≠ a →
  h'.get? a = some { cls := .ref C, dict := some dx, data := .fields #[.ref t1, .none, .none, .none, .bool false, .none] } → h'.Ns1 dx (fun y => if y = f then some u else none) → R (.ok (.ret .none)) { s with heap := h', toks := tk }
theorem xi_code (X : XiC P K mg C fI f qual fd sn xn cda cc) {A : Around} {s : Shared} {a t0 : Addr} {u : Value} {base : Heap} {R : Result → Shared → Prop} (M : Mod K mg base) (hb : ∀ b o, base.get? b = some o → s.heap.get? b = some o) (hroom : A.depth < recursionLimit)
    (ha : s.heap.get? a = some (PySem.HandSPX.excO C t0)) (nK : base.get? a = none) (h : XiEnd s C a f u R) :
    codeAny (model P w) A (.call (.ref fI) ⟨[.ref a, u], []⟩) R s := by
  obtain ⟨oc, od, osl, lk⟩ := X.fn
  obtain ⟨name, params, scope, dV, kV, doc, pm, an, ct, m, j, p0, p1, p2, p3, p4, p5, p6, p7, p8, p9, rfl, ⟨ar, har, rfl⟩, n1, n2, n3, n4, n5, n6, n7, n8, n9⟩ := X.sh
  obtain ⟨ccl, cdd, vs, ccs, file, tf, lc, hv2, hfile⟩ := X.cd
  obtain ⟨cl, cld, csl, lcc⟩ := X.cl
  obtain ⟨ne, nd1, nd2⟩ := X.ne
  have KX : K.In s.heap := M.kin.keeps hb
  have lim : s.heap.NoLimit := M.nolimit.keeps hb
  refine ks_codeAny_call_defAt hroom (KX _ _ lk) rfl lim (PySem.W.codeRec_of KX X.co) rfl (X.bd _ _ KX rfl) n6 ?_ ?_ n7 n8 n5
  · intro y hy
    simp only [List.zip_cons_cons, List.zip_nil_right, List.append_nil, List.mem_cons, List.not_mem_nil, or_false] at hy
    rcases hy with rfl | rfl
    · exact n3
    · exact n4
  intro h0 hns hk
  obtain ⟨L, hL⟩ : ∃ L, s.heap.objs.size = L := ⟨_, rfl⟩
  rw [hL] at hns ⊢
  have hm1 : (fun x => (([(ar.arg, Value.ref a), (xn, u)] : List (Str × Value)).reverse).lookup x) ar.arg = some (.ref a) := by
    have e1 : (ar.arg == xn) = false := by simpa using ne
    simp [List.lookup, e1]
  have hm2 : (fun x => (([(ar.arg, Value.ref a), (xn, u)] : List (Str × Value)).reverse).lookup x) xn = some u := by
    simp [List.lookup]
  generalize hmm : (fun x => (([(ar.arg, Value.ref a), (xn, u)] : List (Str × Value)).reverse).lookup x) = mL at hm1 hm2
  have hns' : h0.Ns L mL := by rw [← hmm]; exact hns
  -- the ledger: all that stood, but the exception
  obtain ⟨G, hG⟩ : ∃ G, PySem.W.hideAll s.heap [a] = G := ⟨_, rfl⟩
  have gn : G.get? a = none := by rw [← hG]; exact PySem.W.hideAll_none _ (by simp)
  have gK : ∀ b o, G.get? b = some o → s.heap.get? b = some o := fun b o e => by rw [← hG] at e; exact PySem.W.of_hideAll _ e
  have kG : ∀ b o, b ≠ a → s.heap.get? b = some o → G.get? b = some o := fun b o hba e => by rw [← hG]; exact PySem.W.hideAll_get _ e (by simpa using hba)
  have gz : G.objs.size = s.heap.objs.size := by rw [← hG]; exact PySem.W.hideAll_size _ _
  have KG : K.In G := fun b o e => kG b o (fun z => by rw [z] at e; rw [M.kin a o e] at nK; cases nK) (hb b o (M.kin b o e))
  have hLa : a ≠ L := Nat.ne_of_lt (by rw [← hL]; exact Heap.lt_size ha)
  have F0 : Fr G L h0 mL := ⟨hns', fun b o e => hk b o (gK b o e), by rw [gz, hL]; exact Nat.le_refl _⟩
  have N0 : News G L h0 [(a, PySem.HandSPX.excO C t0)] := fun p hp => by
    rcases List.mem_singleton.mp hp with rfl
    exact ⟨hk _ _ ha, hLa, gn⟩
  have bG : ∀ b o, base.get? b = some o → G.get? b = some o := fun b o e => kG b o (fun z => by rw [z, nK] at e; cases e) (hb b o e)
  obtain ⟨nm, q, N, bs, bm, snn, sub, ab, col, dd, k0, k1, k2, k3, k5, hC, hbm⟩ := X.T.cls
  have hcl : PySem.W.clsIn K C = some { name := nm, bases := bs, mro := .ref C :: bm, ns := N, qualname := q, hasDict := true, slotNames := snn, subclasses := sub, abstract := ab, collection := col, hasDel := false } := by unfold PySem.W.clsIn; rw [hC] <;> rfl
  -- super()
  have k0 : ∀ b o, K.lookup b = some o → h0.get? b = some o := fun b o e => hk _ _ (KX b o e)
  obtain ⟨hps, pl, hpl⟩ := n9 L
  refine ks_wpAt_execs_cons (ks_wpAt_Expr_any (ks_wpAt_MethodCall (pl := pl) ?_ hpl) hps.hi hps.s1)
  refine ks_wpAt_super_base (f := fI) n1 n2 (by decide) rfl (k0 _ _ lk) rfl har rfl (k0 _ _ lc) rfl hv2 hfile X.tp ?_
  obtain ⟨mb, hb1, hb2⟩ := M.blt
  refine PySem.W.ks_loadName_global n5 n1 (Calls.loadGlobal_builtin (mg := mg) (M.glob.keeps fun b o e => hk _ _ (hb b o e)) X.s0 (hb1.keeps fun b o e => hk _ _ (hb b o e)) ((hb2 "super" (by decide)).trans boot_super) ⟨rfl, ?_⟩)
  refine wpAny_loadName_free n5 n2 rfl ⟨_, k0 _ _ lcc, rfl⟩ ?_
  refine wpAny_loadName_local n5 n3 F0.ns hm1 ?_
  have hC0 := k0 _ _ hC
  refine ks_wpAny_isType_cls hC0 rfl ⟨rfl, ?_⟩
  refine ks_wpAny_call_super hC0 rfl (hk _ _ ha) rfl (fun c e => by cases e) (PySem.W.looks_mroIn (fun b o e => k0 b o e) X.sm) (fun h1 e1 k1 => ?_)
  obtain ⟨F1, N1, l1⟩ := PySem.W.ks_newsPush (s := { s with heap := h0 }) F0 N0 rfl e1 k1
  have ex : PySem.HandSPX.excO C t0 = PySem.W.excObj C t0 none .none := rfl
  have I1 : PySem.W.InstAt h1 a (PySem.HandSPX.excO C t0) C none := ⟨k1 _ _ (hk _ _ ha), rfl, rfl, trivial⟩
  -- .__init__
  refine PySem.W.kxs_method PySem.W.kxs_ValueError F1 KG N1 (List.mem_cons_self ..) I1 X.op X.su X.sv (by decide) (fun q2 h2 F2 N2 l2 => ?_)
  -- its call
  refine PySem.W.kxs_callWith1 (i := "ValueError.__init__") (x := a) N2 (List.mem_cons_self ..) ?_
  refine Calls.spliced_cons (wpAny_Constant_str (x := m) (k := j) (pos := p3) (Calls.spliced_nil ⟨PySem.W.kxs_at N2 (List.mem_cons_self ..), ?_⟩))
  have la1 := l1 _ (List.mem_singleton.mpr rfl)
  have la2 := l2 _ (List.mem_cons_of_mem _ (List.mem_singleton.mpr rfl))
  refine PySem.W.kxs_call (m := mL) (t := t0) (dv := none) (c2 := .none) F2 KG N2 F.excBase_ValueError X.ei (List.mem_cons_self ..) (.tail (Nat.ne_of_gt la2) (.tail (Nat.ne_of_gt la1) (.head (by simp)))) (by simp [sizeLine_eq]) (fun t3 h3 F3 N3 _ => ?_)
  have e3 : h3.get? a = some (PySem.HandSPX.excO C t3) := (N3 (a, PySem.W.excObj C t3 none .none) (by simp)).1
  -- self.f = x
  refine ks_wpAt_execs_cons (wpAt_of_wpAny (plainObj_wpAny_Assign_Attribute ?_ hps.s2))
  refine wpAny_Name (wpAny_loadName_local n5 n4 F3.ns hm2 ?_) nd2
  refine wpAny_Name (wpAny_loadName_local n5 n3 F3.ns hm1 ?_) nd1
  have K3 : K.In h3 := KG.keeps F3.keep
  refine PySem.W.set_plain (ox := PySem.HandSPX.excO C t3) (od := none) K3 ⟨e3, rfl, rfl, trivial⟩ X.T.sa ?_
  refine PySem.HandSPX.exc_osa K3 e3 hcl (show PySem.HandSPX.refsVE (.ref C :: bm) = true from hbm) rfl X.no (fun h4 tk4 dx k4 s4 d4 e4 r4 => ?_)
  refine wpAt_of_wpAny (wpAny_execs_nil ?_)
  obtain ⟨oL, _, _, eL, _⟩ := F3.ns
  have zL : L < h3.objs.size := Heap.lt_size eL
  exact h h4 tk4 t3 dx (fun b o hba e => k4 b o hba (F3.keep b o (kG b o hba e))) (Nat.le_trans (Nat.le_of_eq hL) (Nat.le_trans (Nat.le_of_lt zL) s4)) d4 e4 r4
end
end Sm

/-! text: Sim51 -/
set_option Elab.async false
set_option linter.all false
set_option maxRecDepth 100000
set_option maxHeartbeats 1000000
namespace Sm
open PySem PySem.Spec PyProof.Rows L2
section
variable {X : Cx} {x : Str} {C fI : Addr} {f qual sn xn : Str} {fd : FuncData} {cda cc : Addr} {e : Expr} {es : List Expr} {ta : TA} {p pos : Pos}
/-- C(e), C an own exception whose __init__ keeps what it gets -/
theorem pmk_xi (E : XiC X.prog X.K X.mg C fI f qual fd sn xn cda cc) (hr : Room 1 X.A) (hg : Gl X x) (hm : X.mg x = some (.ref C)) (ha : PA X (e :: es) ta)
    (hdb : (x == ("__debug__" : Str)) = false := by decide) (he : starEach (e :: es) X.env = (false, eval e X.env) :: starEach es X.env := by rfl) (hpl : (backTo pos (starEach es X.env)).any (·.1) = false := by rfl) :
    PMk X (.Call (.Name x p) (e :: es) [] pos) (fun σ H Q => ta σ H fun vs H1 => ∃ y, vs = [y] ∧ ∀ d, H1 d = none → Q (.ref C) (some d) (upd H1 d (.xd [(f, y)]))) := by
  intro pins s σ H Q I h
  obtain ⟨nm, q, N, bs, bm, snn, sub, ab, col, dd, k0, k1, k2, k3, k5, hC, hbm⟩ := E.T.cls
  refine wpAny_Call_Name_kw (ld_glob I hg hm ?_ hdb)
  refine PySem.W.callWith_K (h₀ := X.base) I.ok.mod.kin E.T.kC (thn (ha.run pos pins s σ H _ I h) fun us s1 ⟨vs, H1, I1, r1, y, ev, q1⟩ => ⟨I1.kIn, ?_⟩) he hpl
  subst ev
  obtain ⟨u, ry, rfl⟩ : ∃ u, RelV y u ∧ us = [u] := by
    cases r1 with
    | cons ry r2 => cases r2; exact ⟨_, ry, rfl⟩
  obtain ⟨hp, g, dr, tk, os⟩ := s1
  have up : ∀ b o, hp.get? b = some o → ((hp.push (PySem.W.kdv_tup [u])).push (PySem.HandSPX.excO C hp.objs.size)).get? b = some o := fun b o z => Heap.get?_push_of_some _ (Heap.get?_push_of_some _ z)
  have at_ : ((hp.push (PySem.W.kdv_tup [u])).push (PySem.HandSPX.excO C hp.objs.size)).get? (hp.objs.size + 1) = some (PySem.HandSPX.excO C hp.objs.size) := by heap_get
  have fresh : ∀ b o, hp.get? b = some o → b ≠ hp.objs.size + 1 := fun b o z => Nat.ne_of_lt (Nat.lt_succ_of_lt (Heap.lt_size z))
  have nb : X.base.get? (hp.objs.size + 1) = none := by
    cases z : X.base.get? (hp.objs.size + 1) with
    | none => rfl
    | some o => exact absurd rfl (fresh _ o (I1.bk _ _ z))
  refine wpAny_call (PySem.HandSPX.call_own F.excBase_ValueError (fun Y => PySem.HandSPX.refsVE_contains Y bm hbm) (I1.kIn _ _ hC) (PySem.W.looks_findIn I1.kIn E.ic) (fun self => PySem.W.bind_fn I1.kIn self E.ti) (by simp [sizeLine_eq]) ?_)
  refine xi_code E I1.mod (fun b o z => up b o (I1.bk b o z)) ?_ at_ nb (fun h' tk' t1 dx kp sz dne ha' hn' => ?_)
  · exact (hr.make C [u] []).depth
  · obtain ⟨G, hG⟩ : ∃ G, PySem.W.hideAll h' [hp.objs.size + 1] = G := ⟨_, rfl⟩
    have gn : G.get? (hp.objs.size + 1) = none := by rw [← hG]; exact PySem.W.hideAll_none _ (by simp)
    have gK : ∀ b o, G.get? b = some o → h'.get? b = some o := fun b o z => by rw [← hG] at z; exact PySem.W.of_hideAll _ z
    have kG : ∀ b o, b ≠ hp.objs.size + 1 → h'.get? b = some o → G.get? b = some o := fun b o hba z => by rw [← hG]; exact PySem.W.hideAll_get _ z (by simpa using hba)
    have hup : ∀ b o, hp.get? b = some o → G.get? b = some o := fun b o z => kG b o (fresh b o z) (kp b o (fresh b o z) (up b o z))
    have hsz : hp.objs.size ≤ dx := Nat.le_trans (by simp [Heap.size_push]; omega) sz
    have J : Inv X pins σ (upd H1 dx (.xd [(f, y)])) ⟨G, g, dr, tk', os⟩ := I1.laid (t' := tk') (a := dx) (o := .xd [(f, y)]) (h' := G) hup hsz (by
      refine ⟨_, hn'.at fun o z => kG dx o dne z, fun z => ?_⟩
      exact relO_put (fs := []) (mA := fun _ => none) ry (fun g => True.intro) z)
    refine ⟨rfl, hp.objs.size + 1, _, _, ⟨G, g, dr, tk', os⟩, upd H1 dx (.xd [(f, y)]), .ref C, some dx, rfl, J, gK, gn, ha', ⟨rfl, rfl⟩, rfl, rfl, ?_, rfl, I1.bare, raises_own E.T.exC E.T.tyC, q1 dx (I1.hok.fresh hsz)⟩
    rw [upd_ne (Ne.symm dne)]
    exact I1.hok.fresh (Nat.le_succ _)
end
end Sm

/-! text: Sim52 -/
set_option Elab.async false
set_option linter.all false
set_option maxRecDepth 100000
set_option maxHeartbeats 2000000
namespace Sm
open PySem PySem.Spec PyProof.Rows L2
/-! ### raise C(e), C an own exception with one field -/
def raiseF (k : Nat) (f : Str) (m : Env → M (List D)) : Env → M Out := fun ρ => bd (m ρ) fun ds => match ds with
  | [d] => thr k [.str f, d]
  | _ => stk
theorem ss_raiseF {c : Cf} {X : Cx} {W : XK} {x : Str} {k : Nat} {fI cda cc : Addr} {f qual sn xn : Str} {fd : FuncData} {m : Env → M (List D)} {e : Expr} {es : List Expr} {p pos pos' : Pos} (E : XiC X.prog X.K X.mg (c.cls k) fI f qual fd sn xn cda cc) (hr : Room 1 X.A) (hm : X.mg x = some (.ref (c.cls k))) (tk : Takes X (wx (cW W))) (ha : SA c X (cW W) (e :: es) m)
    (hg : Gl X x := by rfl) (hc : X.calm = true := by rfl) (hdb : (x == ("__debug__" : Str)) = false := by decide) (he : starEach (e :: es) X.env = (false, eval e X.env) :: starEach es X.env := by rfl) (hpl : (backTo pos (starEach es X.env)).any (·.1) = false := by rfl) :
    SS c X W (.Raise (some (.Call (.Name x p) (e :: es) [] pos)) none pos') (raiseF k f m) := by
  refine ⟨ha.k, PS.imp (ps_raise hc tk (pmk_xi E hr hg hm ha.p hdb he hpl)) fun D σ H ⟨B, Ψ, ρ, S, F, g, q⟩ => ?_⟩
  refine ⟨Ψ, ρ, S, F, g.so, g.eo, (q.bd.ext g.x).mono fun ds S1 q1 Ψ1 vs H1 x1 s1 r1 => ?_⟩
  match ds, q1, r1 with
  | [], q1, _ => exact q1.elim
  | _ :: _ :: _, q1, _ => exact q1.elim
  | [d0], q1, r1 =>
    cases r1 with
    | @cons v0 _ _ _ r0 r2 =>
      cases r2
      refine ⟨v0, rfl, fun d hd => ?_⟩
      have n1 := s1.phiNone hd
      exact q1 (Ψ1.know d (.xd [(f, v0)])) (some d) _ (g.x.trans (x1.trans (Ext.new hd n1))) ((s1.lay hd).know upd_same n1 (s1.footNone hd)) ⟨d, v0, rfl, upd_same, r0.mono (Le.know n1)⟩
end Sm

/-! text: Sim53 -/
set_option Elab.async false
set_option linter.all false
set_option maxRecDepth 100000
set_option maxHeartbeats 4000000
namespace Sm
open PySem PySem.Spec PyProof.Rows L2
/-! ### several except clauses, each with a name or without -/
abbrev HTS := Addr → Value → Option Addr → TS
/-- the ends of a suite behind 'as': the name's slot is emptied -/
def unAs (i : Nat) (D : Ends) : Ends := { nx := fun σ H => D.nx (σ.set i none) H, rt := D.rt, bk := fun σ H => D.bk (σ.set i none) H, ct := fun σ H => D.ct (σ.set i none) H }
def enter (o : Option Nat) (ts : HTS) (a : Addr) (cls : Value) (d : Option Addr) (D : Ends) (σ : L2.St) (H : Hp) : Prop := match o with
  | none => ts a cls d D σ H
  | some i => i < σ.length → ts a cls d (unAs i D) (σ.set i (some (.ref a))) H
def wNm (K : PySem.W.Frag) (Wo : WX) (D : Ends) : List (Value × Option Nat × HTS) → WX
  | [] => Wo
  | (c, o, ts) :: r => fun cls d σ H => ∃ b, PySem.W.exmOne K cls c = some b ∧ (b = true → ∀ a, H a = none → enter o ts a cls d D σ H) ∧ (b = false → wNm K Wo D r cls d σ H)
/-- the suite of a clause -/
def SuOk (X : Cx) (su : List Stmt) (ts : HTS) : Prop := ∀ (a : Addr) (oe : Obj) (cls : Value) (d : Option Addr) (pn : List (Addr × Obj)), Zc cls d oe → (∃ vs, oe.data = .fields vs) → PSs (X.suite a ((a, oe) :: pn)) su (ts a cls d)
inductive HdN (X : Cx) : List ExceptHandler → List (Value × Option Nat × HTS) → Prop
  | nil : HdN X [] []
  | plain {x : Str} {c : Value} {ts : HTS} {b₀ : Stmt} {su : List Stmt} {np hp : Pos} {hds : List ExceptHandler} {l : List (Value × Option Nat × HTS)} (hc : Names X x c) (hsu : SuOk X (b₀ :: su) ts) (r : HdN X hds l) : HdN X (.ExceptHandler (some (.Name x np)) none (b₀ :: su) hp :: hds) ((c, none, ts) :: l)
  | named {x n : Str} {i : Nat} {c : Value} {ts : HTS} {b₀ : Stmt} {su : List Stmt} {np hp : Pos} {hds : List ExceptHandler} {l : List (Value × Option Nat × HTS)} (hc : Names X x c) (hN : X.N.Nodup) (hi : X.N[i]? = some n) (hn : X.env.kindOf n = some .local) (hsu : SuOk X (b₀ :: su) ts) (r : HdN X hds l) :
      HdN X (.ExceptHandler (some (.Name x np)) (some n) (b₀ :: su) hp :: hds) ((c, some i, ts) :: l)
theorem suite_end {X : Cx} {pins pnA : List (Addr × Obj)} {a : Addr} {D : Ends} {fl : Flow} {sZ : Shared} (hsp : SP (X.suite a pnA) [] D fl sZ) (he : ∀ {σ : L2.St} {H : Hp}, Inv (X.suite a pnA) [] σ H sZ → Inv X pins σ H sZ) : SP X pins D fl sZ := by
  cases fl with
  | ret u => obtain ⟨v, σZ, HZ, SZ, rZ, qZ⟩ := hsp; exact ⟨v, σZ, HZ, he SZ, rZ, qZ⟩
  | next => obtain ⟨σZ, HZ, SZ, qZ⟩ := hsp; exact ⟨σZ, HZ, he SZ, qZ⟩
  | brk => obtain ⟨σZ, HZ, SZ, qZ⟩ := hsp; exact ⟨σZ, HZ, he SZ, qZ⟩
  | cont => obtain ⟨σZ, HZ, SZ, qZ⟩ := hsp; exact ⟨σZ, HZ, he SZ, qZ⟩
section
variable {X : Cx} {body : List Stmt} {h₀ : ExceptHandler} {hds : List ExceptHandler} {l : List (Value × Option Nat × HTS)} {pos : Pos} {tb : WX → TS} {Wo : WX}
theorem ps_try_nm (stk_ : X.stack = X.env :: X.outer) (hfr : X.env.frame = some X.env.locals) (tk : Takes X Wo)
    (hb : ∀ (W : WX) (pn : List (Addr × Obj)) (xe : Value → Shared → Prop), Takes (X.tr pn xe) W → PassesOwn (model X.prog X.w) X.A X.env xe → PSs (X.tr pn xe) body (tb W))
    (hh : HdN X (h₀ :: hds) l) : PS X (.Try body (h₀ :: hds) [] [] pos) (fun D σ H => tb (wNm X.K Wo D l) D σ H) := by
  refine ⟨fun pins s σ H D I hI => ?_⟩
  have ok := I.ok
  have frs_ : X.A.frames = some (X.env :: X.outer) := ok.frames.trans (by rw [stk_])
  refine wpAny_Try_except (wpAny_mono ((hb (wNm X.K Wo D l) (X.pn ++ pins)
    (fun ex sa => wpAny (model X.prog X.w) X.A (noteFrame ex X.env) (fun _ sb => wpAny (model X.prog X.w) X.A (setFlight ex none) (fun _ sc =>
      wpAny (model X.prog X.w) X.A (handleBy ex X.env (h₀ :: hds)) (SP X pins D) X.xe sc) X.xe sb) X.xe sa) (fun u sX xx => ?_) PassesOwn.looking).run [] s σ H D (I.toTry _) hI) (fun fl sZ hsp => ?_) fun _ _ z => z)
  · obtain ⟨a, B, sI, pI, σI, HI, cls, d, rfl, JT, nb, up, sky, na, os, ag, wish⟩ := xx
    have JI : Inv X pins σI HI sI := JT.ofTry ok
    have skyX : Sky B (X.env :: X.outer) a (Zc cls d) X.env.locals sX.heap := by rw [← stk_]; exact sky
    show wpAny (model X.prog X.w) X.A (noteFrame (.ref a) X.env) _ _ _
    refine Sky.land Zc.steady frs_ hfr skyX fun hA flA upA => ?_
    have JA : Inv X pins σI HI { sX with heap := hA } := JI.landed nb flA.1 (up.trans upA) os ag
    obtain ⟨oA, vA, heA, hzA, hdA⟩ := flA.there
    have outF : a ∉ frs (X.env :: X.outer) := fun hm => by
      obtain ⟨_, o2, e2, hnf⟩ := flA.2.2.1.mem hm
      obtain rfl : oA = o2 := Option.some.inj (heA.symm.trans e2)
      exact hnf _ hdA
    have nL : a ≠ X.env.locals := fun z => outF (List.mem_filterMap.mpr ⟨X.env, List.mem_cons_self, hfr.trans (by rw [z])⟩)
    have nF : a ∉ X.fs := fun hm => let ⟨ev, hev, qv⟩ := List.mem_filterMap.mp hm; outF (List.mem_filterMap.mpr ⟨ev, List.mem_cons_of_mem _ hev, qv⟩)
    have SA_ := JA.suite heA hdA na nL nF
    have look : ∀ {x : Str} {c : Value} {np : Pos} {Q : Value → Shared → Prop} {E : Value → Shared → Prop}, Names X x c → Q c { sX with heap := hA } → wpAny (model X.prog X.w) (X.A.mark (some (.ref a))) (eval (.Name x np) X.env) Q E { sX with heap := hA } := fun {x c np Q E} hc qc => by
      obtain ⟨hg, hdb, k1 | ⟨k1, k2, k3⟩⟩ := hc
      · exact ld_glob (X := X.suite a ((a, oA) :: (X.pn ++ pins))) SA_ hg k1 qc hdb
      · exact ld_blt (X := X.suite a ((a, oA) :: (X.pn ++ pins))) SA_ hg k1 k2 qc k3 hdb
    have isIt : ∀ {c : Value} {b : Bool}, PySem.W.exmOne X.K cls c = some b → _ := fun {c b} hx => PySem.W.exm_one (M := model X.prog X.w) JA.kIn (fun A2 Q2 E2 s2 kk qq => wpAny_typeOf_ref (kk _ _ heA) (by rw [hzA.1]; exact qq)) hx
    have onward : ∀ {hs2 : List ExceptHandler} {l2 : List (Value × Option Nat × HTS)}, HdN X hs2 l2 → wNm X.K Wo D l2 cls d σI HI → wpAny (model X.prog X.w) X.A (handleBy (.ref a) X.env hs2) (SP X pins D) X.xe { sX with heap := hA } := by
      intro hs2 l2 hk
      induction hk with
      | nil =>
        intro wn
        refine wpAny_handleBy_nil ?_
        obtain ⟨_, _, _, oB, vB, T, oT, _, heB, _, hdB, t1, _⟩ := id flA
        unfold PySem.passOn
        refine wpAny_bind (wpAny_field heB hdB t1 ?_)
        rw [if_neg (by simp : ¬ ((Value.ref T == Value.none) = true))]
        have out : wpAny (model X.prog X.w) X.A (setFlight (.ref a) X.env.frame) (fun _ sv => wpAny (model X.prog X.w) X.A (throw (.ref a) : Sem Flow) (SP X pins D) X.xe sv) X.xe { sX with heap := hA } := by
          rw [hfr]
          exact HandSPX.setFlight_upZ flA fun hB flB upB => wpAny_throw (tk _ _ ⟨a, B, sI, pins, σI, HI, cls, d, rfl, JI, nb, (up.trans upA).trans upB, .inr (.inr (by rw [stk_]; exact flB)), na, os, ag, wn⟩)
        first
          | exact wpAny_bind (wpAny_pure (wpAny_bind out))
          | exact wpAny_bind out
      | @plain x c ts b₀ su np hp hs3 l3 hc hsu r ih =>
        intro wn
        obtain ⟨b, hx, yes, no⟩ := wn
        refine wpAny_handleBy_cons (codeAny_handlers_test ?_) (by intro q; cases q)
        refine look hc ((isIt hx).here ?_)
        cases b with
        | false => exact ih (no rfl)
        | true =>
          refine codeAny_handlers_suite (HandSPX.lands_againZ flA fun hB flB upB => ?_)
          have JB : Inv X pins σI HI { sX with heap := hB } := JI.landed nb flB.1 ((up.trans upA).trans upB) os ag
          obtain ⟨oB, vB, heB, hzB, hdB⟩ := flB.there
          exact wpAny_mono ((hsu a oB cls d (X.pn ++ pins) hzB ⟨_, hdB⟩).run [] _ _ HI _ (JB.suite heB hdB na nL nF) (yes rfl a na)) (fun fl sZ hsp => suite_end hsp fun SZ => SZ.unsuite ok) fun _ _ z => False.elim z
      | @named x n i c ts b₀ su np hp hs3 l3 hc hN hi hn hsu r ih =>
        intro wn
        obtain ⟨b, hx, yes, no⟩ := wn
        refine wpAny_handleBy_cons (codeAny_handlers_test ?_) (by intro q; cases q)
        refine look hc ((isIt hx).here ?_)
        cases b with
        | false => exact ih (no rfl)
        | true =>
          refine codeAny_handlers_suite_as (HandSPX.lands_againZ flA fun hB flB upB => ?_)
          have JB : Inv X pins σI HI { sX with heap := hB } := JI.landed nb flB.1 ((up.trans upA).trans upB) os ag
          obtain ⟨oB, vB, heB, hzB, hdB⟩ := flB.there
          refine store_ok (X := X.suite a ((a, oB) :: (X.pn ++ pins))) (v := .ref a) (JB.suite heB hdB na nL nF) hN hi (.inl hn) rfl (fun sC SC => ?_) (.inr hn)
          refine wpAny_mono ((hsu a oB cls d (X.pn ++ pins) hzB ⟨_, hdB⟩).run [] sC _ HI _ SC (yes rfl a na (by rw [JI.len]; exact (List.getElem?_eq_some_iff.mp hi).1))) (fun fl sZ hsp => ?_) fun _ _ z => False.elim z
          have bye : ∀ {σZ : L2.St} {HZ : Hp} {Q : Shared → Prop}, Inv (X.suite a ((a, oB) :: (X.pn ++ pins))) [] σZ HZ sZ → (∀ sY, Inv X pins (σZ.set i none) HZ sY → Q sY) →
              wpAny (model X.prog X.w) X.A (do bindName X.env n .none; unbindBehindTheSuite X.env n hp) (fun _ sY => Q sY) X.xe sZ := fun {σZ HZ Q} SZ hq => gone_ok (SZ.unsuite ok) hN hi hn hq
          cases fl with
          | ret u => obtain ⟨v, σZ, HZ, SZ, rZ, qZ⟩ := hsp; exact bye SZ fun sY JY => ⟨v, _, HZ, JY, rZ, qZ⟩
          | next => obtain ⟨σZ, HZ, SZ, qZ⟩ := hsp; exact bye SZ fun sY JY => ⟨_, HZ, JY, qZ⟩
          | brk => obtain ⟨σZ, HZ, SZ, qZ⟩ := hsp; exact bye SZ fun sY JY => ⟨_, HZ, JY, qZ⟩
          | cont => obtain ⟨σZ, HZ, SZ, qZ⟩ := hsp; exact bye SZ fun sY JY => ⟨_, HZ, JY, qZ⟩
    exact onward hh wish
  · cases fl with
    | ret u => obtain ⟨v, σZ, HZ, JZ, rZ, qZ⟩ := hsp; exact ⟨v, σZ, HZ, JZ.ofTry ok, rZ, qZ⟩
    | next => obtain ⟨σZ, HZ, JZ, qZ⟩ := hsp; exact wpAny_execs_nil ⟨σZ, HZ, JZ.ofTry ok, qZ⟩
    | brk => obtain ⟨σZ, HZ, JZ, qZ⟩ := hsp; exact ⟨σZ, HZ, JZ.ofTry ok, qZ⟩
    | cont => obtain ⟨σZ, HZ, JZ, qZ⟩ := hsp; exact ⟨σZ, HZ, JZ.ofTry ok, qZ⟩
end
end Sm

/-! text: Sim54 -/
set_option Elab.async false
set_option linter.all false
set_option maxRecDepth 100000
set_option maxHeartbeats 2000000
namespace Sm
open PySem PySem.Spec PyProof.Rows L2 LamX
/-! ### what an except clause gives back: a constant, the error's field, a text with it -/
inductive HA where
  | con (v : V)
  | fld (i : Nat) (f : Str)
  | tup (i : Nat) (z f : Str)
def haR (C : Addr) : HA → Value → Option Addr → Hp → VK → Prop
  | .con v, _, _, H, Q => Q v H
  | .fld _ f, cls, d, H, Q => cls = .ref C ∧ ∃ dd fs v, d = some dd ∧ H dd = some (.xd fs) ∧ fs.lookup f = some v ∧ Q v H
  | .tup _ z f, cls, d, H, Q => cls = .ref C ∧ ∃ dd fs v, d = some dd ∧ H dd = some (.xd fs) ∧ fs.lookup f = some v ∧ ∀ p, H p = none → Q (.ref p) (upd H p (.tup [.str z, v]))
def wHa (K : PySem.W.Frag) (Q : VK) : List (Addr × HA) → Value → Option Addr → Hp → Prop
  | [], _, _, _ => False
  | (C, a) :: r, cls, d, H => ∃ b, PySem.W.exmOne K cls (.ref C) = some b ∧ (b = true → haR C a cls d H Q) ∧ (b = false → wHa K Q r cls d H)
def haSlot : HA → Option Nat
  | .con _ => none
  | .fld i _ => some i
  | .tup i _ _ => some i
def haTS (C : Addr) : HA → HTS
  | .con v => fun _ _ _ D _ H => D.rt v H
  | .fld i f => fun a cls d D σ H => tXf a cls d C f (tVar i) σ H D.rt
  | .tup i z f => fun a cls d D σ H => tTup (tCons (tC (.str z)) (tCons (tXf a cls d C f (tVar i)) tNil)) σ H D.rt
/-- the clauses, by what they give back -/
inductive HdA (X : Cx) : List ExceptHandler → List (Addr × HA) → Prop
  | nil : HdA X [] []
  | con {x : Str} {C : Addr} {v : V} {e : Expr} {np hp rp : Pos} {hds : List ExceptHandler} {l : List (Addr × HA)} (hc : Names X x (.ref C)) (hv : ∀ Y, PE Y e (tC v)) (r : HdA X hds l) : HdA X (.ExceptHandler (some (.Name x np)) none [.Return (some e) rp] hp :: hds) ((C, .con v) :: l)
  | fld {x n f : Str} {i : Nat} {C : Addr} {np hp rp p1 p2 : Pos} {hds : List ExceptHandler} {l : List (Addr × HA)} (hc : Names X x (.ref C)) (hN : X.N.Nodup) (hi : X.N[i]? = some n) (hn : X.env.kindOf n = some .local) (T : XfC X.K C) (hno : PySem.W.findIn X.K (.ref C) f = some none)
      (hd : (n == ("__debug__" : Str)) = false) (hcd : (n == ("__classdict__" : Str)) = false) (hb : ∀ Y : Cx, attributeBase (.Name n p1) f Y.env (eval (.Name n p1) Y.env) = eval (.Name n p1) Y.env) (r : HdA X hds l) :
      HdA X (.ExceptHandler (some (.Name x np)) (some n) [.Return (some (.Attribute (.Name n p1) f p2)) rp] hp :: hds) ((C, .fld i f) :: l)
  | tup {x n f z : Str} {i j k2 : Nat} {C : Addr} {np hp rp p1 p2 p3 p4 : Pos} {hds : List ExceptHandler} {l : List (Addr × HA)} (hc : Names X x (.ref C)) (hN : X.N.Nodup) (hi : X.N[i]? = some n) (hn : X.env.kindOf n = some .local) (T : XfC X.K C) (hno : PySem.W.findIn X.K (.ref C) f = some none)
      (hd : (n == ("__debug__" : Str)) = false) (hcd : (n == ("__classdict__" : Str)) = false) (hb : ∀ Y : Cx, attributeBase (.Name n p1) f Y.env (eval (.Name n p1) Y.env) = eval (.Name n p1) Y.env) (r : HdA X hds l) :
      HdA X (.ExceptHandler (some (.Name x np)) (some n) [.Return (some (.Tuple [.Constant (.str z) j p3, .Attribute (.Name n p1) f p2] k2 p4)) rp] hp :: hds) ((C, .tup i z f) :: l)
theorem HdA.n {X : Cx} : ∀ {hds : List ExceptHandler} {l : List (Addr × HA)}, HdA X hds l → HdN X hds (l.map fun p => (.ref p.1, haSlot p.2, haTS p.1 p.2))
  | _, _, .nil => .nil
  | _, _, .con hc hv r => .plain hc (fun a oe cls d pn _ _ => pss_one (ps_ret (hv _))) r.n
  | _, _, .fld hc hN hi hn T hno hd hcd hb r => .named hc hN hi hn (fun a oe cls d pn hz hf => pss_one (ps_ret (pe_xf T hno hz hf (pe_var hi (.inl hn) hd hcd) (hb _)))) r.n
  | _, _, .tup hc hN hi hn T hno hd hcd hb r => .named hc hN hi hn (fun a oe cls d pn hz hf => pss_one (ps_ret (pe_tup (pa_cons pe_str (pa_cons (pe_xf T hno hz hf (pe_var hi (.inl hn) hd hcd) (hb _)) pa_nil))))) r.n
/-- the answers lead on -/
theorem wHa_nm {K : PySem.W.Frag} {D : Ends} {Wo : WX} : ∀ {l : List (Addr × HA)} {cls : Value} {d : Option Addr} {σ : L2.St} {H : Hp}, wHa K D.rt l cls d H → wNm K Wo D (l.map fun p => (.ref p.1, haSlot p.2, haTS p.1 p.2)) cls d σ H
  | [], _, _, _, _, h => h.elim
  | (C, a) :: l, cls, d, σ, H, h => by
    obtain ⟨b, h1, h2, h3⟩ := h
    refine ⟨b, h1, fun hb e he => ?_, fun hb => wHa_nm (h3 hb)⟩
    have h2 := h2 hb
    cases a with
    | con v => exact h2
    | fld i f =>
      obtain ⟨ec, dd, fs, v, e1, e2, e3, q⟩ := h2
      exact fun hl => ⟨.ref e, List.getElem?_set_self hl, rfl, ec, dd, fs, v, e1, e2, e3, q⟩
    | tup i z f =>
      obtain ⟨ec, dd, fs, v, e1, e2, e3, q⟩ := h2
      exact fun hl => ⟨.ref e, List.getElem?_set_self hl, rfl, ec, dd, fs, v, e1, e2, e3, by simp [sizeLine_eq], q⟩
/-! the def that asks -/
def TTh (K : PySem.W.Frag) (l : List (Addr × HA)) (n : V) : (XK → Hp → VK → Prop) → Hp → VK → Prop := fun tl H Q => tl (fun cls d H' => wHa K Q l cls d H') H fun _ H' => Q n H'
section
variable {X : Cx} {Ng : List Str} {x a q : Str} {sg : Scope} {g : Addr} {cdg : Value} {p1 p2 p3 p8 p9 : Pos} {n : V} {cn : Expr} {h₀ : ExceptHandler} {hds : List ExceptHandler} {l : List (Addr × HA)}
theorem gives_h (hh : ∀ (s : Shared) (H : Hp), HdA (cxOf C8.CX0 X.prog X.w X.K X.mg X.base Ng x sg g cdg X.A X.stack s H C8.E0).nox (h₀ :: hds) l) (h0 : ∀ f : Addr, (L2.start Ng [V.ref f])[0]? = some (some (V.ref f))) (hn : ∀ Y, PE Y cn (tC n))
    (hsw : ∀ Y : Cx, swapsWith (.Call (.Name a p1) [] [] p2) none p3.line Y.env = pure false := by intro _; rfl) :
    GivesTo X Ng x sg g cdg [.Try [.Expr (.Call (.Name a p1) [] [] p2) p3] (h₀ :: hds) [] [] p8, .Return (some cn) p9] a q (TTh X.K l n) := by
  intro f c' s H Q tl act hc h
  refine ⟨_, pss_cons (ps_try_nm (X := (cxOf C8.CX0 X.prog X.w X.K X.mg X.base Ng x sg g cdg X.A X.stack s H C8.E0).nox) (Wo := fun _ _ _ _ => False)
      (tb := fun W D σ H => ∃ Ech : XK, (∀ cls d σ' H', Ech cls d H' → W cls d σ' H') ∧ σ[0]? = some (some (.ref f)) ∧ H c' = some (CodeO c' q) ∧ tl Ech H fun _ H' => D.nx σ H')
      rfl rfl L2.takes0 (fun W pn xe tk _ => ?_) (hh s H).n) (pss_one (ps_ret (hn _))), ?_⟩
  · refine ⟨fun pins s' σ H' D I h' => ?_⟩
    obtain ⟨Ech, hW, h1, h2, h3⟩ := h'
    exact (pss_one (ps_expr (pos := p3) (act W pn xe Ech p1 p2 tk hW) (hsw _))).run pins s' σ H' D I ⟨h1, h2, h3⟩
  · exact ⟨fun cls d H' => wHa X.K Q l cls d H', fun cls d σ' H' hw => wHa_nm (D := ⟨_, Q, _, _⟩) hw, h0 f, hc, h⟩
end
/-! its mirror -/
inductive HD where
  | con (d : D)
  | fld (f : Str)
  | tup (z f : Str)
def haD : HD → List D → Option D
  | .con d, _ => some d
  | .fld f, [.str x, v] => if x = f then some v else none
  | .tup z f, [.str x, v] => if x = f then some (.tup [.str z, v]) else none
  | _, _ => none
def hands : List ((Nat → Option Bool) × HD) → Nat → List D → M D
  | [], _, _ => stk
  | (t, a) :: r, k, fs => match t k with
    | some true => opt (haD a fs)
    | some false => hands r k fs
    | none => stk
/-- try: a() / except .. / return n -/
def askH (hs : List ((Nat → Option Bool) × HD)) (dn : D) (ask : M D) : M D := fun S => match ask S with
  | .ok _ S' => .ok dn S'
  | .err k fs S' => hands hs k fs S'
  | .stuck => .stuck
/-- a clause and its mirror -/
inductive HdM (c : Cf) : (Addr × HA) → ((Nat → Option Bool) × HD) → Prop
  | con {C : Addr} {v : V} {d : D} {t : Nat → Option Bool} (hx : TstOk c C t) (r : ∀ Ψ, Rep c Ψ v d) : HdM c (C, .con v) (t, .con d)
  | fld {C : Addr} {i : Nat} {f : Str} {t : Nat → Option Bool} (hx : TstOk c C t) (ho : ∀ k, t k = some true → c.cls k = C) : HdM c (C, .fld i f) (t, .fld f)
  | tup {C : Addr} {i : Nat} {z f : Str} {t : Nat → Option Bool} (hx : TstOk c C t) (ho : ∀ k, t k = some true → c.cls k = C) : HdM c (C, .tup i z f) (t, .tup z f)
inductive HdMs (c : Cf) : List (Addr × HA) → List ((Nat → Option Bool) × HD) → Prop
  | nil : HdMs c [] []
  | cons {a b l m} (h : HdM c a b) (t : HdMs c l m) : HdMs c (a :: l) (b :: m)
/-- only one number is taken -/
theorem tst_only {c : Cf} {l : List (Nat × Bool)} {k0 : Nat} (h : (l.all fun p => !p.2 || p.1 == k0) = true) : ∀ k, tstL l k = some true → c.cls k = c.cls k0 := by
  intro k e
  have : k = k0 := by
    induction l with
    | nil => cases e
    | cons p r ih =>
      rw [List.all_cons, Bool.and_eq_true] at h
      unfold tstL at e
      split at e
      · rename_i hp
        have h1 := h.1
        cases e2 : p.2 with
        | false => rw [e2] at e; cases e
        | true =>
          rw [e2] at h1
          have : p.1 = k0 := by simpa using h1
          rw [← hp, this]
      · exact ih h.2 e
  rw [this]
theorem haD_f (x : Str) (v : D) : haD (.fld x) [.str x, v] = some v := if_pos rfl
theorem haD_t (z x : Str) (v : D) : haD (.tup z x) [.str x, v] = some (.tup [.str z, v]) := if_pos rfl
theorem haD_fn {x f : Str} (v : D) (h : ¬ x = f) : haD (.fld f) [.str x, v] = none := if_neg h
theorem haD_tn {x f : Str} (z : Str) (v : D) (h : ¬ x = f) : haD (.tup z f) [.str x, v] = none := if_neg h
theorem hands_ok {c : Cf} {Ψ : Wd} {H : Hp} {S : Sto} {k : Nat} {fs : List D} {dA : Option Addr} {Q : VK} {W : XK} (so : StoOk c Ψ H S) (xr : XRep c Ψ fs dA) : ∀ {l : List (Addr × HA)} {m : List ((Nat → Option Bool) × HD)}, HdMs c l m →
    Post c W Ψ H (hands m k fs S) (fun d S' => ∀ Ψ' v H', Ext Ψ H Ψ' H' → StoOk c Ψ' H' S' → Rep c Ψ' v d → Q v H') → wHa c.K Q l (.ref (c.cls k)) dA H
  | _, _, .nil, q => q.elim
  | _, _, .cons (a := (C, a)) (b := (t, b)) h r, q => by
    unfold hands at q
    have hx : TstOk c C t := by cases h <;> assumption
    cases e : t k with
    | none => rw [e] at q; exact q.elim
    | some bb =>
      rw [e] at q
      refine ⟨bb, hx k bb e, fun hb => ?_, fun hb => ?_⟩
      · subst hb
        dsimp only at q
        cases h with
        | con _ rv =>
          exact q Ψ _ H (Ext.refl _ _) so (rv Ψ)
        | @fld _ i f _ _ ho =>
          match fs, xr, q with
          | [], _, q => exact q.elim
          | [.str x, v], xr, q =>
            by_cases hxf : x = f
            · subst hxf
              obtain ⟨dd, vv, e1, e2, rv⟩ := xr
              rw [haD_f] at q
              exact ⟨by rw [ho k e], dd, _, vv, e1, so.phi _ _ e2, by simp [List.lookup], q Ψ vv H (Ext.refl _ _) so rv⟩
            · rw [haD_fn v hxf] at q
              exact q.elim
        | @tup _ i z f _ _ ho =>
          match fs, xr, q with
          | [], _, q => exact q.elim
          | [.str x, v], xr, q =>
            by_cases hxf : x = f
            · subst hxf
              obtain ⟨dd, vv, e1, e2, rv⟩ := xr
              rw [haD_t] at q
              exact ⟨by rw [ho k e], dd, _, vv, e1, so.phi _ _ e2, by simp [List.lookup], fun p hp => finT so q (by show 2 ≤ LIM; decide) (.cons (.str z) (.cons rv .nil)) hp⟩
            · rw [haD_tn z v hxf] at q
              exact q.elim
      · subst hb
        exact hands_ok so xr r q
end Sm

/-! text: Sim55 -/
set_option Elab.async false
set_option linter.all false
set_option maxRecDepth 100000
set_option maxHeartbeats 2000000
namespace Sm
open PySem PySem.Spec PyProof.Rows L2 LamX
section
variable {c : Cf} {X : Cx} {W : L2.St → XK} {x a qual : Str} {g f : Addr} {fd : FuncData} {pg : Arguments} {bg : List Stmt} {sg : Scope} {Ng : List Str} {k : Nat} {params : Arguments} {body : Expr} {scope : Scope} {p lpos pos : Pos} {n : V} {dn : D} {mb : Env → M D} {l : List (Addr × HA)} {ms : List ((Nat → Option Bool) × HD)}
/-- f(lambda: e), f: try: a() / except .. / return n -/
theorem se_lamH (F : FunD c.K x x pg bg sg [] [] g fd) (hb : Binds c.K fd [a] []) (Sg : FnScope Ng [a] sg) (hm : X.mg x = some (.ref g)) (hk : X.K = c.K)
    (hG : ∀ cdv, GivesTo X Ng x sg g cdv bg a (X.env.qual ++ "<lambda>") (TTh X.K l n)) (rn : ∀ Ψ, Rep c Ψ n dn) (hx : HdMs c l ms) (T : LamT c X.base X.mg f qual) (hcode : X.env.code = .ref (cdA c.K f)) (hr : Room (k + 2) X.A) (L : LamS X.env.scope scope)
    (hbody : ∀ (A : Around) (outer : List PySem.Env) (s : Shared) (H : Hp) (E : XK) (f c' : Addr), Room k (A.deeper (lamEnv X scope s.heap.objs.size f c')) → SE c (lamCx X A outer s H E scope f c') (cW E) body mb)
    (hq : X.env.qual = qual ++ ".<locals>." := by rfl) (hg : Gl X x := by rfl) (hNg : Ng[0]? = some a := by rfl) (hva : Vis sg a := by first | exact Or.inl rfl | exact Or.inr (Or.inl rfl) | exact Or.inr (Or.inr rfl)) (hdef : defaultsOf params X.env = ([], []) := by rfl)
    (hbind : ∀ (q : Str) (cl : List (Str × Addr)) (pm cv ctv : Value), bindArgs (PySem.W.kla_fn "<lambda>" q params body scope cl pm cv ctv) ⟨[], []⟩ = pure [] := by intro _ _ _ _ _; rfl)
    (hdb : (x == ("__debug__" : Str)) = false := by decide) (hd : (a == ("__debug__" : Str)) = false := by decide) (hcd : (a == ("__classdict__" : Str)) = false := by decide) :
    SE c X W (.Call (.Name x p) [.Lambda params body scope lpos] [] pos) (fun ρ => askH ms dn (mb ρ)) := by
  refine lam_mid (v := n) (TT := fun n => TTh X.K l n) F hb Sg hm hk hG T hcode hq hr L hbody hg hNg hva hdef hbind hdb hd hcd _ fun σ H H1 Q Ψ Ψ1 ρ S Fo x1 s1 e1 q => ?_
  refine ⟨Ψ1, ρ, S, Fo, s1, e1, ?_⟩
  have q' := Post.ext x1 q
  unfold askH at q'
  cases z : mb ρ S with
  | ok d S' =>
    rw [z] at q'
    exact fun Ψ' u H' x2 s2 _ => q' Ψ' _ H' (x1.trans x2) s2 (rn Ψ')
  | err kk fs S' =>
    rw [z] at q'
    refine fun Ψ' d H' x2 s2 xr => ?_
    rw [hk]
    refine hands_ok (W := W σ) s2 xr hx ?_
    exact Post.mono (Post.ext x2 q') fun d0 S2 q3 Ψ3 v H3 x3 s3 r3 => q3 Ψ3 v H3 (x1.trans (x2.trans x3)) s3 r3
  | stuck => rw [z] at q'; exact q'.elim
end
end Sm

/-! text: Sim56 -/
set_option Elab.async false
set_option linter.all false
set_option maxRecDepth 100000
set_option maxHeartbeats 1000000
namespace Sm
open PySem PySem.Spec PyProof.Rows L2
section
variable {c : Cf} {X : Cx} {W : XK} {pos p : Pos} {k kc n np : Nat} {x : Str} {e : Expr} {es : List Expr} {kws : List Keyword}
/-- C(e, ..): the keyword-only parameters have their defaults -/
theorem se_makeD {ma : Env → M (List D)} {m : List D → M D} {g : Addr} {fd : FuncData} {ps : List Str} {E : XK} {ds : List Value} {dvs : List V} {des : List D} (M : Mk c.K (c.cls kc) g) (F : FnOk X.prog X.w c.K X.mg X.base (L2.CX X.prog X.w) k g fd ps (PromI c n kc m)) (hb : Binds c.K fd ps ds) (hd : Vals dvs ds) (rd : ∀ Ψ, Reps c Ψ dvs des)
    (hr : Room (k + 1) X.A) (hm : X.mg x = some (.ref (c.cls kc))) (tk : Takes X (wx (cW E)))
    (ha : SA c X (cW E) (e :: es) ma) (hg : Gl X x := by rfl) (hdb : (x == ("__debug__" : Str)) = false := by decide) (he : starEach (e :: es) X.env = (false, eval e X.env) :: starEach es X.env := by rfl) (hpl : (backTo pos (starEach es X.env)).any (·.1) = false := by rfl) :
    SE c X (cW E) (.Call (.Name x p) (e :: es) [] pos) (fun ρ => bd (ma ρ) fun as => callM n m (as ++ des)) := by
  have F' : FnOk X.prog X.w X.K X.mg X.base (L2.CX X.prog X.w) k g fd ps (PromI c n kc m) := by rw [ha.k]; exact F
  have hb' : Binds X.K fd ps ds := by rw [ha.k]; exact hb
  have M' : Mk X.K (c.cls kc) g := by rw [ha.k]; exact M
  refine ⟨ha.k, PE.imp (pe_make M' F' hr hg hm hb' hd (passes_wx tk) ha.p hdb he hpl) fun σ H Q ⟨Ψ, ρ, S, Fo, so, eo, q⟩ => ⟨Ψ, ρ, S, Fo, so, eo, q.bd.mono fun as S1 q1 Ψ1 vs H1 e1 so1 r1 => ?_⟩⟩
  intro a' dx hx hdx ne
  unfold callM at q1
  split at q1
  · rename_i hl _
    exact ⟨Ψ1, S1, as ++ des, H1, a', dx, vs ++ dvs, rfl, hx, hdx, ne, rfl, so1, r1.app (rd Ψ1), hl, (q1.ext e1).mono fun d S' q2 Ψ' H' e2 s2 r2 => ⟨rfl, q2 Ψ' _ H' (e1.trans e2) s2 r2⟩⟩
  · exact q1.elim
/-- C(e, .., k = v, ..) -/
theorem se_makePK {ma mk : Env → M (List D)} {m : List D → M D} {g : Addr} {fd : FuncData} {ps ks : List Str} {E : XK} {gg : List Value → List Value → List Value} {gV : List V → List V → List V} {gD : List D → List D → List D} (M : Mk c.K (c.cls kc) g) (F : FnOk X.prog X.w c.K X.mg X.base (L2.CX X.prog X.w) k g fd ps (PromI c n kc m)) (hb : KBn c.K fd ps (np + 1) ks gg gV)
    (hgV : ∀ (Ψ : Wd) (v : V) (vs zs : List V) (es ds : List D), Reps c Ψ vs es → Reps c Ψ zs ds → vs.length = np → zs.length = ks.length → ∃ ws, gV (v :: vs) zs = v :: ws ∧ Reps c Ψ ws (gD es ds)) (hr : Room (k + 1) X.A) (hm : X.mg x = some (.ref (c.cls kc))) (tk : Takes X (wx (cW E)))
    (ha : SA c X (cW E) (e :: es) ma) (hk : SK c X (cW E) kws mk) (hg : Gl X x := by rfl) (hall : (backToKw pos (keywordEach kws X.env)).all (·.1.isSome) = true := by rfl) (hks : (backToKw pos (keywordEach kws X.env)).filterMap (·.1) = ks := by rfl) (hdb : (x == ("__debug__" : Str)) = false := by decide)
    (he : starEach (e :: es) X.env = (false, eval e X.env) :: starEach es X.env := by rfl) (hpl : ((backTo pos (starEach (e :: es) X.env)).any (·.1) || (backToKw pos (keywordEach kws X.env)).any (·.1.isNone)) = false := by rfl) :
    SE c X (cW E) (.Call (.Name x p) (e :: es) kws pos) (fun ρ => bd (ma ρ) fun as => bd (mk ρ) fun zs => bd (opt (if as.length = np ∧ zs.length = ks.length then some () else none)) fun _ => callM n m (gD as zs)) := by
  have F' : FnOk X.prog X.w X.K X.mg X.base (L2.CX X.prog X.w) k g fd ps (PromI c n kc m) := by rw [hk.k]; exact F
  have hb' : KBn X.K fd ps (np + 1) ks gg gV := by rw [hk.k]; exact hb
  have M' : Mk X.K (c.cls kc) g := by rw [hk.k]; exact M
  refine ⟨hk.k, PE.imp (L2.pe_makeK M' F' hr hg hm hb' (passes_wx tk) ha.p hk.p hall hks hdb he hpl) fun σ H Q ⟨Ψ, ρ, S, Fo, so, eo, q⟩ => ?_⟩
  refine ⟨Ψ, ρ, S, Fo, so, eo, q.bd.mono fun as S1 q1 Ψ1 vs H1 e1 so1 r1 => ⟨Ψ1, ρ, S1, Fo, so1, eo.ext e1, (q1.ext e1).bd.mono fun zd S2 q2 Ψ2 zs H2 e2 so2 r2 => ?_⟩⟩
  have q3 := q2.bd
  unfold opt at q3
  split at q3
  · rename_i hl
    split at hl
    · rename_i hl2
      have lv : vs.length = np := by rw [r1.length]; exact hl2.1
      have lz : zs.length = ks.length := by rw [r2.length]; exact hl2.2
      refine ⟨lv, lz, fun a' dx hx hdx ne => ?_⟩
      obtain ⟨ws, ew, rw'⟩ := hgV Ψ2 (.ref a') vs zs as zd (r1.mono e2.le) r2 lv lz
      have q4 : Post c E Ψ1 H1 (callM n m (gD as zd) S2) _ := q3
      unfold callM at q4
      split at q4
      · rename_i hl3 _
        rw [ew]
        exact ⟨Ψ2, S2, gD as zd, H2, a', dx, ws, rfl, hx, hdx, ne, rfl, so2, rw', hl3, (q4.ext e2).mono fun d S' q5 Ψ' H' e3 s3 r3 => ⟨rfl, q5 Ψ' _ H' ((e1.trans e2).trans e3) s3 r3⟩⟩
      · exact q4.elim
    · cases hl
  · exact q3.elim
end
end Sm

/-! text: Sim57 -/
set_option Elab.async false
set_option linter.all false
set_option maxRecDepth 100000
set_option maxHeartbeats 1000000
namespace Sm
open PySem PySem.Spec PyProof.Rows L2
/-- a shared list, by its number -/
def refD (x : D) : M Nat := fun S => match x with
  | .ref n => (match S[n]? with
    | some (.lst _) => .ok n S
    | _ => .stuck)
  | _ => .stuck
section
variable {c : Cf} {X : Cx} {W : XK} {e o : Expr} {pos apos cpos : Pos}
/-- o.append(e), o an expression that gives a list of its own -/
theorem ss_appendE {m0 m : Env → M D} (h0 : SE c X (cW W) o m0) (h : SE c X (cW W) e m) (hbase : attributeBase o "append" X.env (eval o X.env) = eval o X.env := by rfl)
    (hfew : ((backTo cpos (starEach [e] X.env)).all (fun x => !x.1) && (backToKw cpos (keywordEach [] X.env)).all (fun x => x.1.isSome)
      && decide ([e].length + ([] : List Keyword).length + (if ([] : List Keyword).isEmpty then 0 else 1) < 30)) = true := by rfl)
    (hline : (apos.endLine == cpos.line) = true := by rfl) (hs : starEach [e] X.env = (false, eval e X.env) :: starEach [] X.env := by rfl) (hplain : (backTo cpos (starEach [] X.env)).any (·.1) = false := by rfl)
    (hsw : swapsWith (.Call (.Attribute o "append" apos) [e] [] cpos) none pos.line X.env = pure false := by rfl) :
    SS c X W (.Expr (.Call (.Attribute o "append" apos) [e] [] cpos) pos) (fun ρ => bd (m0 ρ) fun x => bd (refD x) fun n => bd (m ρ) fun d => appR n d ρ) := by
  refine ⟨h.k, PS.imp (ps_expr (pe_bm PySem.F.plainAttrs_list PySem.F.slot_list_append PySem.F.type_list_append mt_append h0.p (pa_cons h.p pa_nil hs) hbase hfew hline hs hplain) hsw) fun D σ H ⟨B, Ψ, ρ, S, F, g, q⟩ => ?_⟩
  refine ⟨Ψ, ρ, S, F, g.so, g.eo, (q.bd.ext g.x).mono fun x0 S0 q0 Ψ0 u H0 y0 s0 r0 => ?_⟩
  have g0 := g.ext y0 s0
  have q2 := Post.bd q0
  cases x0 with
  | ref n =>
    unfold refD at q2
    dsimp only at q2
    split at q2
    · rename_i ds0 hd0
      cases r0 with
      | obj hp =>
        rename_i p
        obtain ⟨p', h3, vs, h4, h5, h6, h7⟩ := s0.obj n _ hd0
        rw [hp] at h3; cases h3
        have q3 : Post c W B.wd B.H (bd (m ρ) (fun d => appR n d ρ) S0) _ := q2
        refine ⟨.inl ⟨rfl, vs, SqL.of h4⟩, Ψ0, ρ, S0, F, s0, g0.eo, (q3.bd.ext g0.x).mono fun d S1 q1 Ψ1 v H1 x1 s1 r1 => ?_⟩
        have hp1 := x1.le.mu _ _ hp
        unfold appR at q1
        split at q1
        · rename_i ds hd
          split at q1
          · rename_i hl
            obtain ⟨p', h3, vs', h4', h5', h6', h7'⟩ := s1.obj n _ hd
            rw [hp1] at h3; cases h3
            refine ⟨p.1, vs', v, rfl, rfl, h4', lim_lt (by rw [h7'.length]; exact hl), ?_⟩
            have xx : Ext Ψ1 H1 Ψ1 _ := Ext.updO (o := .lst (vs' ++ [v])) hp1 (by rw [h4']; exact fun z => nomatch z)
            exact q1 Ψ1 σ _ F ((g0.ext x1 s1).ext xx (s1.updO hp1 hd (by rw [List.length_append, h7'.length]; exact hl) (h7'.app (.cons r1 .nil))))
          · exact q1.elim
        · exact q1.elim
    · exact q2.elim
  | _ => exact q2.elim
end
end Sm

/-! text: Sim58 -/
set_option Elab.async false
set_option linter.all false
set_option maxRecDepth 100000
set_option maxHeartbeats 2000000
namespace Sm
open PySem PySem.Spec PyProof.Rows L2 LamX
/-! ### an asker that makes something of the answer: try: x = a(); return e / except .. -/
abbrev WNo : L2.St → XK := fun _ _ _ _ => False
def TTt (c : Cf) (Ng : List Str) (K : PySem.W.Frag) (l : List (Addr × HA)) (me : Env → M D) : (XK → Hp → VK → Prop) → Hp → VK → Prop := fun tl H Q =>
  ∀ f : Addr, tl (fun cls d H' => wHa K Q l cls d H') H fun v H' => rE c WNo me ((L2.start Ng [V.ref f]).set 1 (some v)) H' Q
section
variable {c : Cf} {X : Cx} {Ng : List Str} {x x1 a q : Str} {sg : Scope} {g : Addr} {cdg : Value} {p0 p1 p2 p3 p4 p8 : Pos} {e : Expr} {me : Env → M D} {h₀ : ExceptHandler} {hds : List ExceptHandler} {l : List (Addr × HA)}
theorem gives_t (hh : ∀ (s : Shared) (H : Hp), HdA (cxOf C8.CX0 X.prog X.w X.K X.mg X.base Ng x sg g cdg X.A X.stack s H C8.E0).nox (h₀ :: hds) l) (h0 : ∀ f : Addr, (L2.start Ng [V.ref f])[0]? = some (some (V.ref f))) (hN : Ng.Nodup) (h1 : Ng[1]? = some x1) (hx1 : Loc sg x1)
    (hlx : sg.names.lookup x1 = some .local)
    (he : ∀ (s : Shared) (H : Hp) (pn : List (Addr × Obj)) (xe : Value → Shared → Prop), SE c ((cxOf C8.CX0 X.prog X.w X.K X.mg X.base Ng x sg g cdg X.A X.stack s H C8.E0).nox.tr pn xe) WNo e me)
    (hs : ∀ Y : Cx, swapsWith (.Call (.Name a p1) [] [] p2) (some (.Name x1 p0)) p3.line Y.env = pure false := by intro _; rfl) :
    GivesTo X Ng x sg g cdg [.Try [.Assign [.Name x1 p0] (.Call (.Name a p1) [] [] p2) p3, .Return (some e) p4] (h₀ :: hds) [] [] p8] a q (TTt c Ng X.K l me) := by
  intro f c' s H Q tl act hc h
  refine ⟨_, pss_one (ps_try_nm (X := (cxOf C8.CX0 X.prog X.w X.K X.mg X.base Ng x sg g cdg X.A X.stack s H C8.E0).nox) (Wo := fun _ _ _ _ => False)
      (tb := fun W D σ H => ∃ Ech : XK, (∀ cls d σ' H', Ech cls d H' → W cls d σ' H') ∧ σ = L2.start Ng [V.ref f] ∧ H c' = some (CodeO c' q) ∧ tl Ech H fun v H' => rE c WNo me (σ.set 1 (some v)) H' D.rt)
      rfl rfl L2.takes0 (fun W pn xe tk _ => ?_) (hh s H).n), ?_⟩
  · refine ⟨fun pins s' σ H' D I h' => ?_⟩
    obtain ⟨Ech, hW, hσ, h2, h3⟩ := h'
    subst hσ
    exact (pss_cons (ps_set (i := 1) (pos' := p0) (pos := p3) hN h1 hx1 (act W pn xe Ech p1 p2 tk hW) (hs _) (.inr hlx)) (pss_one (ps_ret (pos := p4) (he s H pn xe).p))).run pins s' _ H' D I ⟨h0 f, h2, h3⟩
  · exact ⟨fun cls d H' => wHa X.K Q l cls d H', fun cls d σ' H' hw => wHa_nm (D := ⟨_, Q, _, _⟩) hw, rfl, hc, h f⟩
end
/-- try: x = a(); return e / except .. -/
def askT (hs : List ((Nat → Option Bool) × HD)) (me : Env → M D) (ask : M D) : M D := fun S => match ask S with
  | .ok d S' => noX (me [.no, .val d, .no]) S'
  | .err k fs S' => hands hs k fs S'
  | .stuck => .stuck
section
variable {c : Cf} {X : Cx} {W : L2.St → XK} {x a qual : Str} {g f : Addr} {fd : FuncData} {pg : Arguments} {bg : List Stmt} {sg : Scope} {Ng : List Str} {k : Nat} {params : Arguments} {body : Expr} {scope : Scope} {p lpos pos : Pos} {mb me : Env → M D} {l : List (Addr × HA)} {ms : List ((Nat → Option Bool) × HD)}
theorem se_lamT (F : FunD c.K x x pg bg sg [] [] g fd) (hb : Binds c.K fd [a] []) (Sg : FnScope Ng [a] sg) (hm : X.mg x = some (.ref g)) (hk : X.K = c.K)
    (hG : ∀ cdv, GivesTo X Ng x sg g cdv bg a (X.env.qual ++ "<lambda>") (TTt c Ng X.K l me)) (hx : HdMs c l ms) (T : LamT c X.base X.mg f qual) (hcode : X.env.code = .ref (cdA c.K f)) (hr : Room (k + 2) X.A) (L : LamS X.env.scope scope)
    (hbody : ∀ (A : Around) (outer : List PySem.Env) (s : Shared) (H : Hp) (E : XK) (f c' : Addr), Room k (A.deeper (lamEnv X scope s.heap.objs.size f c')) → SE c (lamCx X A outer s H E scope f c') (cW E) body mb)
    (hst : ∀ f : Addr, L2.start Ng [V.ref f] = [some (V.ref f), none, none] := by intro _; rfl)
    (hq : X.env.qual = qual ++ ".<locals>." := by rfl) (hg : Gl X x := by rfl) (hNg : Ng[0]? = some a := by rfl) (hva : Vis sg a := by first | exact Or.inl rfl | exact Or.inr (Or.inl rfl) | exact Or.inr (Or.inr rfl)) (hdef : defaultsOf params X.env = ([], []) := by rfl)
    (hbind : ∀ (q : Str) (cl : List (Str × Addr)) (pm cv ctv : Value), bindArgs (PySem.W.kla_fn "<lambda>" q params body scope cl pm cv ctv) ⟨[], []⟩ = pure [] := by intro _ _ _ _ _; rfl)
    (hdb : (x == ("__debug__" : Str)) = false := by decide) (hd : (a == ("__debug__" : Str)) = false := by decide) (hcd : (a == ("__classdict__" : Str)) = false := by decide) :
    SE c X W (.Call (.Name x p) [.Lambda params body scope lpos] [] pos) (fun ρ => askT ms me (mb ρ)) := by
  refine lam_mid (v := .non) (TT := fun _ => TTt c Ng X.K l me) F hb Sg hm hk hG T hcode hq hr L hbody hg hNg hva hdef hbind hdb hd hcd _ fun σ H H1 Q Ψ Ψ1 ρ S Fo x1 s1 e1 q => fun fa => ?_
  refine ⟨Ψ1, ρ, S, Fo, s1, e1, ?_⟩
  have q' := Post.ext x1 q
  unfold askT at q'
  cases z : mb ρ S with
  | ok d S' =>
    rw [z] at q'
    refine fun Ψ' v H' x2 s2 r2 => ⟨Ψ', [.no, .val d, .no], S', fun _ => [], s2, ?_, ?_⟩
    · rw [hst fa]
      refine ⟨rfl, fun i sl hi => ?_, fun _ _ => rfl, fun i b hb => (List.not_mem_nil hb).elim, fun i j b _ hb => (List.not_mem_nil hb).elim⟩
      match i, hi with
      | 0, hi => cases hi; exact rfl
      | 1, hi => cases hi; exact ⟨rfl, v, rfl, r2⟩
      | 2, hi => cases hi; exact rfl
    · refine Post.mono (Post.noX (W' := fun _ _ _ => False) (Post.ext x2 q')) fun d' S2 q3 Ψ3 u H3 x3 s3 r3 => q3 Ψ3 u H3 (x1.trans (x2.trans x3)) s3 r3
  | err kk fs S' =>
    rw [z] at q'
    refine fun Ψ' d H' x2 s2 xr => ?_
    rw [hk]
    refine hands_ok (W := W σ) s2 xr hx ?_
    exact Post.mono (Post.ext x2 q') fun d0 S2 q3 Ψ3 v H3 x3 s3 r3 => q3 Ψ3 v H3 (x1.trans (x2.trans x3)) s3 r3
  | stuck => rw [z] at q'; exact q'.elim
end
end Sm

/-! text: Sim59 -/
set_option Elab.async false
set_option linter.all false
set_option maxRecDepth 100000
set_option maxHeartbeats 2000000
namespace PySem.W
open PySem PySem.Calls PyProof.Rows Builtin
section
variable {prog : Program} {w : World} {A : Around} {E : Value → Shared → Prop} {s : Shared} {K : Frag} {x C L f : Addr} {h₀ : Heap} {m : Str → Option Value} {ox : Obj} {od : Option Obj}
theorem own_abs {Q : Value → Shared → Prop} (F : Fr h₀ L s.heap m) (X₀ : K.In h₀) (I : InstAt s.heap x ox C od) (hs : findIn K (.ref C) "__abs__" = some (some (.ref f))) (hf : isFn K (.ref f) = true)
    (h : wpAny (model prog w) A.in1 (call (.ref f) [.ref x]) Q E s) : wpAny (model prog w) A (call (.builtin "abs") [.ref x]) Q E s := by
  refine Calls.call_function_entry kind_abs plain_abs entry_abs (args_abs _) ?_
  unfold Builtin.«abs»
  refine wpAny_bind (m := oneArg "abs" _) (wpAny_pure ?_)
  exact wpAny_bind (m := callSpecial? (.ref x) (Str.ofString "__abs__")) (special_fn (X₀.keeps F.keep) I hs (beq_iff_eq.mp hf) (wpAny_mono h (fun r s' hr => wpAny_pure ⟨_, rfl, hr⟩) fun _ _ y => y))
end
end PySem.W
namespace Sm
open PySem PySem.Spec PyProof.Rows L2
/-! ### abs(o) of an instance whose class has __abs__ -/
def rAbsOwn (C : Addr) (sp : Sp) (E : XK) : List V → Hp → VK → Prop := fun xs H Q => ∃ a dx vs, xs = [V.ref a] ∧ SlX.Slt H a C dx vs ∧ sp [.ref a] H Q E
theorem call_absOwn {X : Cx} {CX : CXT} {C g : Addr} {n : Nat} {sp : Sp} {E : XK} (hs : PySem.W.findIn X.K (.ref C) "__abs__" = some (some (.ref g))) (hf : PySem.W.isFn X.K (.ref g) = true) (F : FnR X.prog X.w X.K X.mg X.base CX n g sp) (hr : Room (n + 1) X.A) (hx : Passes CX X E) : CallR X (.builtin "abs") (rAbsOwn C sp E) := by
  intro pins s σ H xs us Q I r h
  obtain ⟨a, dx, vs, rfl, hsl, q⟩ := h
  obtain ⟨u, rfl, ru⟩ := r.one
  cases (show u = Value.ref a from ru)
  obtain ⟨sl, od, _, J, _⟩ := SlX.slt_inst I hsl
  obtain ⟨m, hF⟩ := I.fr
  refine PySem.W.own_abs hF I.ok.mod.kin J hs hf (wpAny_mono (wpAny_call (SlX.run_at (us := [.ref a]) (ws := [.ref a]) F hr.in1 I.env0.in1 hx I (.cons rfl .nil) q)) (fun w s' z => ?_) fun _ _ x => x)
  obtain ⟨z', H', I', rz, qz⟩ := z
  exact ⟨z', H', I', rz, qz⟩
theorem boot_abs : bootBuiltins "abs" = some (.builtin "abs") := by kernel_rfl
theorem se_absO {c : Cf} {X : Cx} {W : L2.St → XK} {a : Expr} {me : Env → M D} {g : Addr} {n k : Nat} {m : List D → M D} {p pos : Pos} (h : SE c X W a me) (hm : X.mg "abs" = none) (C : SlX.SCls c.K (c.cls k)) (t : Meth c.K (c.cls k) "__abs__" g) (G : Fn c X.prog X.w X.mg X.base n g 1 m) (hr : Room (n + 1) X.A)
    (hg : Gl X "abs" := by rfl) (he : starEach [a] X.env = (false, eval a X.env) :: starEach [] X.env := by rfl) :
    SE c X W (.Call (.Name "abs" p) [a] [] pos) (fun ρ => bd (me ρ) fun d => bd (insM k d) fun d => noX (callM 1 m [d])) := by
  have G' : FnR X.prog X.w X.K X.mg X.base (L2.CX X.prog X.w) n g (PromF c 1 m) := by rw [h.k]; exact G.r
  refine ⟨h.k, PE.imp (pe_callB (call_absOwn (C := c.cls k) (E := E0) (by rw [h.k]; exact t.at_) (by rw [h.k]; exact t.fn) G' hr (fun pins σ H s er s' I z => by
    obtain ⟨_, _, _, _, _, _, _, _, _, _, _, _, z⟩ := z
    exact z.elim)) hg hm boot_abs (pa_cons h.p pa_nil he) (by decide) (by decide) he) fun σ H Q ⟨Ψ, ρ, S, F, so, eo, q⟩ => ⟨Ψ, ρ, S, F, so, eo, q.bd.mono fun d S1 q1 Ψ1 v H1 x1 s1 r1 => ?_⟩⟩
  have q2 := q1.bd
  unfold insM at q2
  split at q2
  · split at q2
    · rename_i _ fs _ ek _
      subst ek
      have q3 : Post c (W σ) Ψ H (noX (callM 1 m [.ins _ fs]) S1) _ := q2
      cases r1 with
      | ins h0 r0 =>
        refine ⟨_, _, _, rfl, slt_phi s1 h0, ?_⟩
        exact prom_of (E := E0) (ds := [.ins _ fs]) s1 (.cons (.ins h0 r0) .nil) ((Post.noX (W' := E0) q3).ext x1) fun d' S' Ψ' v H' q4 e2 s2 r2 => q4 Ψ' _ H' (x1.trans e2) s2 r2
    · exact q2.elim
  · exact q2.elim
/-! ### constants of the module: tuples of tuples -/
def all2B (f : Value → D → Bool) : List Value → List D → Bool
  | [], [] => true
  | v :: vs, d :: ds => f v d && all2B f vs ds
  | _, _ => false
def cstB (K : PySem.W.Frag) : Nat → Value → D → Bool
  | _, .none, .non => true
  | _, .bool b, .bl b' => decide (b = b')
  | _, .int i _, .int j => decide (i = j)
  | _, .str z _, .str y => decide (z = y)
  | n + 1, .ref a, .tup ds => (match K.lookup a with
    | some ⟨.type cn, none, .seq its _, _⟩ => decide (cn = "tuple") && (decide (its.size ≤ 1000) && all2B (cstB K n) its.toList ds)
    | _ => false)
  | _, _, _ => false
theorem all2_ok {K : PySem.W.Frag} {f : Value → D → Bool} (ih : ∀ v d, f v d = true → ∃ x, RelV x v ∧ ∀ (c : Cf) (Ψ : Wd), c.K = K → Rep c Ψ x d) : ∀ (vs : List Value) (ds : List D), all2B f vs ds = true → ∃ xs, Vals xs vs ∧ ∀ (c : Cf) (Ψ : Wd), c.K = K → Reps c Ψ xs ds
  | [], [], _ => ⟨[], .nil, fun _ _ _ => .nil⟩
  | [], _ :: _, h => by cases h
  | _ :: _, [], h => by cases h
  | v :: vs, d :: ds, h => by
    rw [all2B, Bool.and_eq_true] at h
    obtain ⟨x, h1, h2⟩ := ih v d h.1
    obtain ⟨xs, h3, h4⟩ := all2_ok ih vs ds h.2
    exact ⟨x :: xs, .cons h1 h3, fun c Ψ e => .cons (h2 c Ψ e) (h4 c Ψ e)⟩
theorem vals_len : ∀ {xs : List V} {vs : List Value}, Vals xs vs → xs.length = vs.length
  | _, _, .nil => rfl
  | _, _, .cons _ t => by simp [vals_len t]
theorem cst_ok {K : PySem.W.Frag} : ∀ (n : Nat) (v : Value) (d : D), cstB K n v d = true → ∃ x, RelV x v ∧ ∀ (c : Cf) (Ψ : Wd), c.K = K → Rep c Ψ x d := fun n => by
  induction n with
  | zero =>
    intro v d h
    unfold cstB at h
    split at h
    · exact ⟨.non, rfl, fun _ _ _ => .non⟩
    · have e := of_decide_eq_true h; subst e; exact ⟨.bl _, rfl, fun _ _ _ => .bl _⟩
    · have e := of_decide_eq_true h; subst e; exact ⟨.int _, ⟨_, rfl⟩, fun _ _ _ => .int _⟩
    · have e := of_decide_eq_true h; subst e; exact ⟨.str _, ⟨_, rfl⟩, fun _ _ _ => .str _⟩
    · omega
    · cases h
  | succ n ih =>
    intro v d h
    unfold cstB at h
    split at h
    · exact ⟨.non, rfl, fun _ _ _ => .non⟩
    · have e := of_decide_eq_true h; subst e; exact ⟨.bl _, rfl, fun _ _ _ => .bl _⟩
    · have e := of_decide_eq_true h; subst e; exact ⟨.int _, ⟨_, rfl⟩, fun _ _ _ => .int _⟩
    · have e := of_decide_eq_true h; subst e; exact ⟨.str _, ⟨_, rfl⟩, fun _ _ _ => .str _⟩
    · rename_i m a ds e
      obtain rfl : m = n := by omega
      split at h
      · rename_i cn its sz sl hk
        obtain ⟨h1, h⟩ := He.ba h
        obtain ⟨h2, h3⟩ := He.ba h
        have e1 := of_decide_eq_true h1
        have e2 := of_decide_eq_true h2
        subst e1
        obtain ⟨xs, h4, h5⟩ := all2_ok ih _ _ h3
        refine ⟨.ref a, rfl, fun c Ψ ec => ?_⟩
        subst ec
        refine .tup (vs := xs) (.inr ⟨_, its, sz, hk, rfl, rfl, Nat.le_trans e2 (by decide), h4⟩) ?_ (h5 c Ψ rfl)
        rw [vals_len h4]
        exact Nat.le_trans e2 (by decide)
      · cases h
    · cases h
theorem se_cst {c : Cf} {X : Cx} {W : L2.St → XK} {x : Str} {d : D} {pos : Pos} (h : ∃ u v, X.mg x = some u ∧ RelV v u ∧ ∀ Ψ, Rep c Ψ v d) (k : X.K = c.K) (hg : Gl X x := by rfl) (hd : (x == ("__debug__" : Str)) = false := by decide) : SE c X W (.Name x pos) (fun _ => rt d) := by
  obtain ⟨u, v, h1, h2, h3⟩ := h
  exact se_glob k hg h1 h2 h3 hd
end Sm

/-! text: Sim19 -/
set_option Elab.async false
set_option linter.all false
set_option maxRecDepth 100000
set_option maxHeartbeats 1000000
namespace Sm
open PySem PySem.Spec PyProof.Rows L2
/-! ### what the head looks at -/
inductive At where
  | glo (x : Str)
  | meth (C m : Str)
  | prop (C m : Str)
  | stat (C m : Str)
def pAd (K : PySem.W.Frag) (C m : Str) : Addr := match PySem.W.findIn K (.ref (He.ga K C)) m with
  | some (some (.ref p)) => p
  | _ => 0
def gAd (K : PySem.W.Frag) (C m : Str) : Addr := match PySem.W.recIn K (pAd K C m) "property" with
  | some (.ref g :: _) => g
  | _ => 0
def At.ad (K : PySem.W.Frag) : At → Addr
  | .glo x => He.ga K x
  | .meth C m => He.ma K (He.ga K C) m
  | .prop C m => gAd K C m
  | .stat C m => He5.wf K (He.ga K C) "staticmethod" m
/-- the tables with their names -/
def tbs (K : PySem.W.Frag) (tq : List (At × Str)) : List (Addr × Str) := tq.map fun t => (tbA K (t.1.ad K), lamQ t.2)
def cds (K : PySem.W.Frag) (tq : List (At × Str)) : List (Addr × Addr) := tq.map fun t => (cdA K (t.1.ad K), tbA K (t.1.ad K))
/-- no two tables at one place -/
def tbsB (K : PySem.W.Frag) (tq : List (At × Str)) : Bool := tq.all fun t => tq.all fun u => !decide (tbA K (t.1.ad K) = tbA K (u.1.ad K)) || decide (t.2 = u.2)
def fnA (K : PySem.W.Frag) (a : Addr) : He.FnW := match K.lookup a with
  | some ⟨_, _, .func fd, _⟩ => some (fd.name, fd.qualname, fd.params, fd.body, fd.scope, fd.globals, fd.closure.map (fun p => (p.1, 0)), fd.builtins)
  | _ => none
structure DS where
  at_ : At
  name : Str
  qual : Str
  st : Stmt
  kwd : List (Str × He.Dv) := []
  clo : List Str := []
def DS.val (d : DS) : He.FnW := some (d.name, d.qual, defArgs d.st, .stmts (defBody d.st), defScope d.st, mainGlobals, d.clo.map (fun x => (x, 0)), builtinsNs)
def DS.kws (K : PySem.W.Frag) (d : DS) : List (Str × V) := d.kwd.map fun q => (q.1, q.2.v K)
def DS.ok (K : PySem.W.Frag) (d : DS) : Bool := PySem.W.keepIn K (.ref (d.at_.ad K)) && (match K.lookup (d.at_.ad K) with
  | some ⟨_, _, .func fd, _⟩ => PySem.W.codeIn K fd.code d.qual && (He.dflB K fd.defaults [] && He.kwdB K fd.kwdefaults (d.kws K))
  | _ => false)
theorem DS.look {K : PySem.W.Frag} {d : DS} (e : fnA K (d.at_.ad K) = d.val) (c : d.ok K = true) : ∃ oc od dV kV doc pm an cdv ct osl cl, K.lookup (d.at_.ad K) = some ⟨oc, od, .func (PySem.W.fnX d.name d.qual (defArgs d.st) (defBody d.st) (defScope d.st) cl dV kV doc pm an cdv ct), osl⟩ ∧
    cl.map (fun p => (p.1, 0)) = d.clo.map (fun x => (x, 0)) ∧ PySem.W.codeIn K cdv d.qual = true ∧ DflV K dV [] ∧ KwdV K kV (d.kws K) ∧ PySem.W.keepIn K (.ref (d.at_.ad K)) = true := by
  obtain ⟨kp, c2⟩ := He.ba c
  unfold fnA at e
  cases q : K.lookup (d.at_.ad K) with
  | none =>
    rw [q] at c2
    cases c2
  | some o =>
    obtain ⟨oc, od, dt, osl⟩ := o
    rw [q] at c2 e
    cases dt with
    | func fd =>
      obtain ⟨n1, n2, n3, n4, n5, n6, n7, n8, n9, n10, n11, n12, n13, n14, n15⟩ := fd
      have e2 : (some (n1, n2, n3, n4, n5, n6, n7.map (fun p => (p.1, 0)), n15) : He.FnW) = some (d.name, d.qual, defArgs d.st, .stmts (defBody d.st), defScope d.st, mainGlobals, d.clo.map (fun x => (x, 0)), builtinsNs) := e
      simp only [Option.some.injEq, Prod.mk.injEq] at e2
      obtain ⟨h1, h2, h3, h4, h5, h6, h7, h8⟩ := e2
      subst h1 h2 h3 h4 h5 h6 h8
      have c3 : (PySem.W.codeIn K n13 d.qual && (He.dflB K n8 [] && He.kwdB K n9 (d.kws K))) = true := c2
      obtain ⟨k1, k2⟩ := He.ba c3
      obtain ⟨k3, k4⟩ := He.ba k2
      exact ⟨oc, od, n8, n9, n10, n11, n12, n13, n14, osl, n7, rfl, h7, k1, He.dflB_ok k3, He.kwdB_ok k4, kp⟩
    | _ => cases c2
theorem DS.funD {K : PySem.W.Frag} {d : DS} (e : fnA K (d.at_.ad K) = d.val) (c : d.ok K = true) (hc : d.clo = []) : ∃ fd, FunD K d.name d.qual (defArgs d.st) (defBody d.st) (defScope d.st) [] (d.kws K) (d.at_.ad K) fd := by
  obtain ⟨oc, od, dV, kV, doc, pm, an, cdv, ct, osl, cl, lk, hcl, h1, h2, h3, kp⟩ := DS.look e c
  rw [hc] at hcl
  cases cl with
  | nil => exact ⟨_, ⟨oc, od, dV, kV, doc, pm, an, cdv, ct, osl, rfl, lk, h1, h2, h3⟩, kp⟩
  | cons p r => simp at hcl
/-- .. that closes over its class -/
theorem DS.funX {K : PySem.W.Frag} {d : DS} (e : fnA K (d.at_.ad K) = d.val) (c : d.ok K = true) (hc : d.clo = [("__class__" : Str)]) : ∃ oc od dV kV doc pm an cdv ct osl cc, K.lookup (d.at_.ad K) = some ⟨oc, od, .func (PySem.W.ksFn d.name d.qual (defArgs d.st) (defBody d.st) (defScope d.st) dV kV doc pm an cdv ct cc), osl⟩ ∧
    PySem.W.codeIn K cdv d.qual = true ∧ DflV K dV [] ∧ KwdV K kV (d.kws K) ∧ PySem.W.keepIn K (.ref (d.at_.ad K)) = true := by
  obtain ⟨oc, od, dV, kV, doc, pm, an, cdv, ct, osl, cl, lk, hcl, h1, h2, h3, kp⟩ := DS.look e c
  rw [hc] at hcl
  match cl, hcl, lk with
  | [(x, cc)], hcl, lk =>
    simp only [List.map_cons, List.map_nil, List.cons.injEq, Prod.mk.injEq, and_true] at hcl
    subst hcl
    exact ⟨oc, od, dV, kV, doc, pm, an, cdv, ct, osl, cc, lk, h1, h2, h3, kp⟩
  | [], hcl, _ => simp at hcl
  | _ :: _ :: _, hcl, _ => simp at hcl
/-! facts by name -/
inductive Fx where
  | free (x : Str)
  | glo (x : Str)
  | int (x : Str) (i : Int)
  | strs (x : Str) (ys : List Str)
  | cls (x : Str)
  | slot (C f : Str) (i : Nat)
  | prop (C f : Str)
  | meth (C m : Str)
  | mk (C : Str)
  | ne (C : Str)
  | fi (C m : Str)
  | exc (x : Str)
  | exm (x y : Str) (b : Bool)
  | sf (C : Str)
  | sm (C m : Str)
  | tu (tq : List (At × Str))
  | xi (C f file : Str)
  | xf (C f : Str)
  | cst (x : Str) (d : D)
def eqS (a b : Option (Option Value)) : Bool := decide (a = b)
def relS : List Str → List Value → Bool
  | [], [] => true
  | y :: ys, .str z _ :: vs => decide (y = z) && relS ys vs
  | _, _ => false
theorem relS_ok : ∀ {ys : List Str} {vs : List Value}, relS ys vs = true → Vals (ys.map V.str) vs
  | [], [], _ => .nil
  | [], _ :: _, h => by cases h
  | y :: ys, [], h => by cases h
  | y :: ys, v :: vs, h => by
    cases v with
    | str z t =>
      obtain ⟨h1, h2⟩ := He.ba (show (decide (y = z) && relS ys vs) = true from h)
      have e := of_decide_eq_true h1
      subst e
      exact .cons ⟨t, rfl⟩ (relS_ok h2)
    | _ => cases h
/-- an own class over ValueError that gives its instances a dict -/
def oexB (K : PySem.W.Frag) (C : Addr) : Bool := match K.lookup C with
  | some ⟨.type "type", _, .cls cd, sl⟩ => (match cd.mro, sl.toList with
    | .ref D :: bm, [_, _, _, _, some (.builtin n), _] => decide (D = C) && (decide (n = "ValueError.__new__") && (!cd.hasDel && (cd.hasDict && PySem.HandSPX.refsVE bm)))
    | _, _ => false)
  | _ => false
theorem oexB_ok {K : PySem.W.Frag} {C : Addr} (h : oexB K C = true) : ∃ nm q N bs bm sn sub ab col dd k0 k1 k2 k3 k5, K.lookup C = some (excClassObj nm q C N bs bm true sn sub ab col dd k0 k1 k2 k3 k5 "ValueError.__new__") ∧ PySem.HandSPX.refsVE bm = true := by
  unfold oexB at h
  split at h
  · rename_i dd cd sl ho
    split at h
    · rename_i D bm k0 k1 k2 k3 n k5 hm hs
      obtain ⟨h1, h⟩ := He.ba h
      obtain ⟨h2, h⟩ := He.ba h
      obtain ⟨h3, h⟩ := He.ba h
      obtain ⟨h4, h5⟩ := He.ba h
      have e1 := of_decide_eq_true h1
      have e2 := of_decide_eq_true h2
      subst e1 e2
      obtain ⟨nm, bs, mro, ns, qn, hd, sn, sub, ab, col, del⟩ := cd
      obtain ⟨l⟩ := sl
      dsimp only at hm hs h3 h4
      have h3' : del = false := by simpa using h3
      subst hm hs h3' h4
      exact ⟨nm, qn, ns, bs, bm, sn, sub, ab, col, dd, k0, k1, k2, k3, k5, ho, h5⟩
    · cases h
  · cases h
/-- the code object at fd names this file -/
def fileB (K : PySem.W.Frag) (v : Value) (file : Str) : Bool := match v with
  | .ref a => (match K.lookup a with
    | some ⟨_, _, .fields vs, _⟩ => (match (vs[2]? : Option Value) with
      | some (.str g _) => decide (g = file)
      | _ => false)
    | _ => false)
  | _ => false
theorem fileB_ok {K : PySem.W.Frag} {v : Value} {file : Str} (h : fileB K v file = true) : ∃ a ccl cdd vs ccs tf, v = .ref a ∧ K.lookup a = some ⟨ccl, cdd, .fields vs, ccs⟩ ∧ vs[2]? = some (.str file tf) := by
  unfold fileB at h
  split at h
  · split at h
    · rename_i oc od vs osl hk
      split at h
      · rename_i g tf hv
        have e := of_decide_eq_true h
        subst e
        exact ⟨_, _, _, _, _, _, rfl, hk, hv⟩
      · cases h
    · cases h
  · cases h
def cellB (K : PySem.W.Frag) (fa C : Addr) (file : Str) : Bool := match K.lookup fa with
  | some ⟨_, _, .func fd, _⟩ => fileB K fd.code file && (match fd.closure with
    | [(_, cc)] => (match K.lookup cc with
      | some ⟨_, _, .cell (some (.ref D)), _⟩ => decide (D = C)
      | _ => false)
    | _ => false)
  | _ => false
theorem cellB_ok {K : PySem.W.Frag} {fa C : Addr} {file : Str} (h : cellB K fa C file = true) {oc : Value} {od : Option Addr} {fd : FuncData} {osl : Array (Option Value)} {x : Str} {cc : Addr} (lk : K.lookup fa = some ⟨oc, od, .func fd, osl⟩) (hc : fd.closure = [(x, cc)]) : fileB K fd.code file = true ∧ ∃ cl cld csl, K.lookup cc = some ⟨cl, cld, .cell (some (.ref C)), csl⟩ := by
  unfold cellB at h
  rw [lk] at h
  dsimp only at h
  obtain ⟨h1, h2⟩ := He.ba h
  rw [hc] at h2
  dsimp only at h2
  refine ⟨h1, ?_⟩
  split at h2
  · rename_i cl cld D csl hk
    have e := of_decide_eq_true h2
    subst e
    exact ⟨_, _, _, hk⟩
  · cases h2
def Fx.ok (K : PySem.W.Frag) : Fx → Bool
  | .free x => eqS (PySem.W.nsIn K mainGlobals x) (some none)
  | .glo x => eqS (PySem.W.nsIn K mainGlobals x) (some (some (.ref (He.ga K x))))
  | .int x i => (match PySem.W.nsIn K mainGlobals x with
    | some (some (.int j _)) => decide (j = i)
    | _ => false)
  | .strs x ys => eqS (PySem.W.nsIn K mainGlobals x) (some (some (.ref (He.ga K x)))) && (match K.lookup (He.ga K x) with
    | some ⟨.type c, none, .seq its _, _⟩ => decide (c = "tuple") && (decide (its.size ≤ sizeLine) && relS ys its.toList)
    | _ => false)
  | .cls x => eqS (PySem.W.nsIn K mainGlobals x) (some (some (.ref (He.ga K x)))) && (PySem.W.plainGet K (He.ga K x) Str.empty && (PySem.W.isClsIn K (He.ga K x) && (PySem.W.plainOver K (He.ga K x) && (eqS (PySem.W.findIn K (.ref (He.ga K x)) "__setattr__") (some (some (.builtin "object.__setattr__"))) &&
      (eqS (PySem.W.findIn K (.ref (He.ga K x)) "__class__") (some (some (.builtin "object.__class__"))) && (eqS (PySem.W.specialIn K (.builtin "object.__class__") "__get__") (some (some (.builtin "getset_descriptor.__get__"))) &&
      (decide (PySem.W.takesIn K (.builtin "object.__class__") = some true) && decide (PySem.W.mroIn K (He.ga K x) (.type "object") = some true))))))))
  | .slot C f i => eqS (PySem.W.findIn K (.ref (He.ga K C)) f) (some (some (.ref (pAd K C f)))) && (eqS (PySem.W.specialIn K (.ref (pAd K C f)) "__get__") (some (some (.builtin "member_descriptor.__get__"))) &&
      (decide (PySem.W.takesIn K (.ref (pAd K C f)) = some true) && (decide (PySem.W.typeIn K (.ref (pAd K C f)) = some (.type "member_descriptor")) && (decide (PySem.W.slotIn K (pAd K C f) (He.ga K C) = some i) && decide (i < 1000)))))
  | .prop C f => eqS (PySem.W.findIn K (.ref (He.ga K C)) f) (some (some (.ref (pAd K C f)))) && (eqS (PySem.W.specialIn K (.ref (pAd K C f)) "__get__") (some (some (.builtin "property.__get__"))) &&
      (decide (PySem.W.takesIn K (.ref (pAd K C f)) = some true) && (match PySem.W.recIn K (pAd K C f) "property" with
        | some (.ref g :: _) => decide (g = gAd K C f)
        | _ => false)))
  | .meth C m => eqS (PySem.W.findIn K (.ref (He.ga K C)) m) (some (some (.ref (He.ma K (He.ga K C) m)))) && (PySem.W.isFn K (.ref (He.ma K (He.ga K C) m)) && PySem.W.keepIn K (.ref (He.ma K (He.ga K C) m)))
  | .mk C => PySem.W.makesIn K (He.ga K C) && (eqS (PySem.W.findIn K (.ref (He.ga K C)) "__init__") (some (some (.ref (He.ma K (He.ga K C) "__init__")))) && (PySem.W.isFn K (.ref (He.ma K (He.ga K C) "__init__")) && PySem.W.keepIn K (.ref (He.ga K C))))
  | .ne C => eqS (PySem.W.findIn K (.ref (He.ga K C)) "__ne__") (some (some (.builtin "object.__ne__")))
  | .fi C m => PySem.W.fnIn K (He.ma K (He.ga K C) m)
  | .exc x => eqS (PySem.W.nsIn K mainGlobals x) (some (some (.ref (He.ga K x)))) && (PySem.W.excIn K (He.ga K x) [.type "ValueError", .type "Exception", .type "BaseException", .type "object"] "ValueError.__new__" && (PySem.W.keepIn K (.ref (He.ga K x)) &&
      (decide (PySem.W.subIn K (.ref (He.ga K x)) (.type "BaseException") = some true) && decide (PySem.W.typeIn K (.ref (He.ga K x)) = some (.type "type")))))
  | .exm x y b => decide (PySem.W.exmOne K (.ref (He.ga K x)) (.ref (He.ga K y)) = some b)
  | .sf C => PySem.W.selfFirst K (He.ga K C)
  | .sm C m => He5.wrapB K (He.ga K C) "staticmethod" "staticmethod.__get__" m && (PySem.W.readsIn K (He.ga K C) (.type "type") && eqS (PySem.W.specialIn K (.ref (He.ga K C)) "__getattribute__") (some (some (.builtin "type.__getattribute__"))))
  | .tu tq => tbsB K tq
  | .xi C f file => eqS (PySem.W.nsIn K mainGlobals C) (some (some (.ref (He.ga K C)))) && (oexB K (He.ga K C) && (eqS (PySem.W.findIn K (.ref (He.ga K C)) "__setattr__") (some (some (.builtin "object.__setattr__"))) && (decide (PySem.W.subIn K (.ref (He.ga K C)) (.type "BaseException") = some true) &&
      (decide (PySem.W.typeIn K (.ref (He.ga K C)) = some (.type "type")) && (PySem.W.keepIn K (.ref (He.ga K C)) && (eqS (PySem.W.ks_superIn K (He.ga K C) (He.ga K C) "__init__") (some (some (.builtin "ValueError.__init__"))) &&
      (PySem.W.excInitIn K (He.ga K C) [.type "ValueError", .type "Exception", .type "BaseException", .type "object"] "ValueError.__new__" && (decide (PySem.W.subIn K (.ref (He.ga K C)) (.type "ValueError") = some true) && (decide (PySem.W.mroIn K (He.ga K C) (.ref (He.ga K C)) = some true) &&
      (eqS (PySem.W.findIn K (.ref (He.ga K C)) f) (some none) && (eqS (PySem.W.nsIn K cStatics "thirdparty.any") (some none) && (eqS (PySem.W.nsIn K mainGlobals "super") (some none) && (eqS (PySem.W.findIn K (.ref (He.ga K C)) "__init__") (some (some (.ref (He.ma K (He.ga K C) "__init__")))) &&
      (decide (PySem.W.typeIn K (.ref (He.ma K (He.ga K C) "__init__")) = some (.type "function")) && cellB K (He.ma K (He.ga K C) "__init__") (He.ga K C) file))))))))))))))
  | .xf C f => xfB K (He.ga K C) && eqS (PySem.W.findIn K (.ref (He.ga K C)) f) (some none)
  | .cst x d => (match PySem.W.nsIn K mainGlobals x with
    | some (some v) => cstB K 4 v d
    | _ => false)
/-- the def of a staticmethod -/
def sAd (K : PySem.W.Frag) (C m : Str) : Addr := He5.wf K (He.ga K C) "staticmethod" m
section
variable {K : PySem.W.Frag} {h : Heap} {mg : Str → Option Value}
theorem eqS_ok {a b : Option (Option Value)} (h : eqS a b = true) : a = b := of_decide_eq_true h
theorem fx_free (X : K.In h) (G : h.Ns mainGlobals mg) {x : Str} (c : (Fx.free x).ok K = true) : mg x = none := PySem.W.mg_none_of X G (eqS_ok c)
theorem fx_glo (X : K.In h) (G : h.Ns mainGlobals mg) {x : Str} (c : (Fx.glo x).ok K = true) : mg x = some (.ref (He.ga K x)) := PySem.W.mg_of X G (eqS_ok c)
theorem fx_int (X : K.In h) (G : h.Ns mainGlobals mg) {x : Str} {i : Int} (c : (Fx.int x i).ok K = true) : ∃ u, mg x = some u ∧ RelV (.int i) u := by
  obtain ⟨t, e⟩ := He.int_ok X G (i := i) (x := x) c
  exact ⟨_, e, t, rfl⟩
theorem fx_strs (X : K.In h) (G : h.Ns mainGlobals mg) {x : Str} {ys : List Str} (c : (Fx.strs x ys).ok K = true) : ∃ ad, mg x = some (.ref ad) ∧ KTs K ad ys := by
  obtain ⟨c1, c2⟩ := He.ba c
  refine ⟨_, PySem.W.mg_of X G (eqS_ok c1), ?_⟩
  cases q : K.lookup (He.ga K x) with
  | none => rw [q] at c2; cases c2
  | some o =>
    obtain ⟨oc, od, dt, osl⟩ := o
    rw [q] at c2
    cases oc with
    | type cn =>
      cases od with
      | none =>
        cases dt with
        | seq its n =>
          obtain ⟨h1, h2⟩ := He.ba (show (decide (cn = "tuple") && (decide (its.size ≤ sizeLine) && relS ys its.toList)) = true from c2)
          obtain ⟨h3, h4⟩ := He.ba h2
          exact ⟨⟨_, its, n, q, congrArg Value.type (of_decide_eq_true h1), rfl, rfl, of_decide_eq_true h3, relS_ok h4⟩⟩
        | _ => cases c2
      | some d => cases dt <;> cases c2
    | _ => cases od <;> cases dt <;> cases c2
theorem fx_cls (X : K.In h) (G : h.Ns mainGlobals mg) {x : Str} (c : (Fx.cls x).ok K = true) : mg x = some (.ref (He.ga K x)) ∧ SlX.SCls K (He.ga K x) ∧ SlX.SIsi K (He.ga K x) := by
  obtain ⟨c0, c⟩ := He.ba c
  obtain ⟨c1, c⟩ := He.ba c
  obtain ⟨c2, c⟩ := He.ba c
  obtain ⟨c3, c⟩ := He.ba c
  obtain ⟨c4, c⟩ := He.ba c
  obtain ⟨c5, c⟩ := He.ba c
  obtain ⟨c6, c⟩ := He.ba c
  obtain ⟨c7, c8⟩ := He.ba c
  exact ⟨PySem.W.mg_of X G (eqS_ok c0), ⟨c1, c2, c3, eqS_ok c4⟩, ⟨eqS_ok c5, eqS_ok c6, of_decide_eq_true c7, of_decide_eq_true c8⟩⟩
theorem fx_slot {C f : Str} {i : Nat} (c : (Fx.slot C f i).ok K = true) : ∃ ad, SlX.Slot1 K (He.ga K C) f ad i := by
  obtain ⟨c1, c⟩ := He.ba c
  obtain ⟨c2, c⟩ := He.ba c
  obtain ⟨c3, c⟩ := He.ba c
  obtain ⟨c4, c⟩ := He.ba c
  obtain ⟨c5, c6⟩ := He.ba c
  exact ⟨_, eqS_ok c1, eqS_ok c2, of_decide_eq_true c3, of_decide_eq_true c4, of_decide_eq_true c5, of_decide_eq_true c6⟩
theorem fx_prop {C f : Str} (c : (Fx.prop C f).ok K = true) : Prp K (He.ga K C) f (pAd K C f) (gAd K C f) := by
  obtain ⟨c1, c⟩ := He.ba c
  obtain ⟨c2, c⟩ := He.ba c
  obtain ⟨c3, c4⟩ := He.ba c
  refine ⟨eqS_ok c1, eqS_ok c2, of_decide_eq_true c3, ?_⟩
  cases q : PySem.W.recIn K (pAd K C f) "property" with
  | none => rw [q] at c4; cases c4
  | some l =>
    rw [q] at c4
    cases l with
    | nil => cases c4
    | cons v rest =>
      cases v with
      | ref g =>
        have e : g = gAd K C f := of_decide_eq_true c4
        exact ⟨rest, by rw [← e]⟩
      | _ => cases c4
theorem fx_meth {C m : Str} (c : (Fx.meth C m).ok K = true) : Meth K (He.ga K C) m (He.ma K (He.ga K C) m) := by
  obtain ⟨c1, c⟩ := He.ba c
  obtain ⟨c2, c3⟩ := He.ba c
  exact ⟨eqS_ok c1, c2, c3⟩
theorem fx_ne {C : Str} (c : (Fx.ne C).ok K = true) : PySem.W.findIn K (.ref (He.ga K C)) "__ne__" = some (some (.builtin "object.__ne__")) := eqS_ok c
theorem fx_callo {C : Str} (c : (Fx.meth C "__call__").ok K = true) (c2 : (Fx.fi C "__call__").ok K = true) : ∃ g, StX.CallO K (He.ga K C) g :=
  ⟨_, (fx_meth c).at_, (fx_meth c).fn, c2⟩
theorem fx_exc (X : K.In h) (G : h.Ns mainGlobals mg) {x : Str} (c : (Fx.exc x).ok K = true) : mg x = some (.ref (He.ga K x)) ∧ ExC K (He.ga K x) := by
  obtain ⟨c0, c⟩ := He.ba c
  obtain ⟨c1, c⟩ := He.ba c
  obtain ⟨c2, c⟩ := He.ba c
  obtain ⟨c3, c4⟩ := He.ba c
  exact ⟨PySem.W.mg_of X G (eqS_ok c0), c1, c2, of_decide_eq_true c3, of_decide_eq_true c4⟩
/-- an exception with a field: all that Sim50 asks -/
theorem fx_xi {P : Program} (X : K.In h) (G : h.Ns mainGlobals mg) {C f file sn xn : Str} (c : (Fx.xi C f file).ok K = true) {d : DS} (hat : d.at_ = .meth C "__init__") (e : fnA K (d.at_.ad K) = d.val) (c2 : d.ok K = true) (hc : d.clo = [("__class__" : Str)]) (hP : ((P.main.file : Str) == file) = true) (hT : (P.main.scope.names.lookup ("super" : Str)).isSome = false)
    (ne : sn ≠ xn ∧ (sn == ("__debug__" : Str)) = false ∧ (xn == ("__debug__" : Str)) = false)
    (bd : ∀ (kV doc pm : Value) (an : Option Addr) (cdv ct : Value) (cc : Addr) (us : List Value), us.length = 2 → bindArgs (PySem.W.ksFn d.name d.qual (defArgs d.st) (defBody d.st) (defScope d.st) .none kV doc pm an cdv ct cc) ⟨us, []⟩ = pure ([sn, xn].zip us))
    (sh : ∀ (fI : Addr) (dV kV doc pm : Value) (an : Option Addr) (cda : Addr) (ct : Value) (cc : Addr), ∃ m j p0 p1 p2 p3 p4 p5 p6 p7 p8 p9, defBody d.st = xiBody sn xn f m j p0 p1 p2 p3 p4 p5 p6 p7 p8 p9 ∧ ∀ L, XiPos (callEnv (PySem.W.ksFn d.name d.qual (defArgs d.st) (defBody d.st) (defScope d.st) dV kV doc pm an (.ref cda) ct cc) L fI) sn xn f m j p0 p1 p2 p3 p4 p5 p6 p7 p8 p9 ∧ ∃ pl, xiRead (callEnv (PySem.W.ksFn d.name d.qual (defArgs d.st) (defBody d.st) (defScope d.st) dV kV doc pm an (.ref cda) ct cc) L fI) m j p0 p1 p2 p3 p4 pl)
    (ar : ∃ ar, ((defArgs d.st).posonlyargs ++ (defArgs d.st).args).head? = some ar ∧ ar.arg = sn) (n1 : (defScope d.st).names.lookup ("super" : Str) = some .globalImplicit) (n2 : (defScope d.st).names.lookup ("__class__" : Str) = some .free) (n3 : (defScope d.st).names.lookup sn = some .local) (n4 : (defScope d.st).names.lookup xn = some .local)
    (n5 : (defScope d.st).kind = .function) (n6 : ∀ x ∈ (defScope d.st).names, x.2 ≠ .cell) (n7 : (defScope d.st).isCoroutine = false) (n8 : (defScope d.st).isGenerator = false) :
    mg C = some (.ref (He.ga K C)) ∧ ∃ fI qual fd sn xn cda cc, XiC P K mg (He.ga K C) fI f qual fd sn xn cda cc := by
  obtain ⟨oc, od, dV, kV, doc, pm, an, cdv, ct, osl, cc, lk, k1, k2, k3, kp⟩ := DS.funX e c2 hc
  have hfa : d.at_.ad K = He.ma K (He.ga K C) "__init__" := by rw [hat] <;> rfl
  rw [hfa] at lk kp
  obtain ⟨x1, c⟩ := He.ba c
  obtain ⟨x2, c⟩ := He.ba c
  obtain ⟨x3, c⟩ := He.ba c
  obtain ⟨x4, c⟩ := He.ba c
  obtain ⟨x5, c⟩ := He.ba c
  obtain ⟨x6, c⟩ := He.ba c
  obtain ⟨x7, c⟩ := He.ba c
  obtain ⟨x8, c⟩ := He.ba c
  obtain ⟨x9, c⟩ := He.ba c
  obtain ⟨y1, c⟩ := He.ba c
  obtain ⟨y2, c⟩ := He.ba c
  obtain ⟨y3, c⟩ := He.ba c
  obtain ⟨y4, c⟩ := He.ba c
  obtain ⟨y5, c⟩ := He.ba c
  obtain ⟨y6, y7⟩ := He.ba c
  obtain ⟨z1, z2⟩ := cellB_ok y7 lk rfl
  obtain ⟨cda, ccl, cdd, vs, ccs, tf, ecd, hcd, hvs⟩ := fileB_ok z1
  have ecd' : cdv = .ref cda := ecd
  subst ecd'
  obtain ⟨m, j, p0, p1, p2, p3, p4, p5, p6, p7, p8, p9, eb, hp⟩ := sh (He.ma K (He.ga K C) "__init__") dV kV doc pm an cda ct cc
  refine ⟨PySem.W.mg_of X G (eqS_ok x1), He.ma K (He.ga K C) "__init__", d.qual, _, sn, xn, cda, cc, ⟨⟨oexB_ok x2, eqS_ok x3, of_decide_eq_true x4, of_decide_eq_true x5, x6⟩, eqS_ok x7, x8, of_decide_eq_true x9, of_decide_eq_true y1, eqS_ok y2, eqS_ok y3, PySem.W.mg_none_of X G (eqS_ok y4), eqS_ok y5, of_decide_eq_true y6, ⟨oc, od, osl, lk⟩,
    ⟨d.name, defArgs d.st, defScope d.st, dV, kV, doc, pm, an, ct, m, j, p0, p1, p2, p3, p4, p5, p6, p7, p8, p9, by rw [eb], ar, n1, n2, n3, n4, n5, n6, n7, n8, hp⟩, ?_, ne, k1, ⟨ccl, cdd, vs, ccs, file, tf, hcd, hvs, hP⟩, z2, hT⟩⟩
  rcases k2 with ⟨_, rfl⟩ | ⟨e, _⟩
  · exact .all (bd kV doc pm an (.ref cda) ct cc)
  · exact absurd rfl e
theorem fx_xf {C f : Str} (c : (Fx.xf C f).ok K = true) : XfC K (He.ga K C) ∧ PySem.W.findIn K (.ref (He.ga K C)) f = some none := by
  obtain ⟨c1, c2⟩ := He.ba c
  exact ⟨xfB_ok c1, eqS_ok c2⟩
theorem fx_cst (X : K.In h) (G : h.Ns mainGlobals mg) {x : Str} {d : D} (c : (Fx.cst x d).ok K = true) : ∃ u v, mg x = some u ∧ RelV v u ∧ ∀ (c : Cf) (Ψ : Wd), c.K = K → Rep c Ψ v d := by
  have c' : (match PySem.W.nsIn K mainGlobals x with
    | some (some v) => cstB K 4 v d
    | _ => false) = true := c
  split at c'
  · rename_i u hu
    obtain ⟨v, h1, h2⟩ := cst_ok 4 u d c'
    exact ⟨u, v, PySem.W.mg_of X G hu, h1, h2⟩
  · cases c'
theorem fx_exm {x y : Str} {b : Bool} (c : (Fx.exm x y b).ok K = true) : PySem.W.exmOne K (.ref (He.ga K x)) (.ref (He.ga K y)) = some b := of_decide_eq_true c
theorem fx_sf {C : Str} (c : (Fx.sf C).ok K = true) : PySem.W.selfFirst K (He.ga K C) = true := c
theorem fx_sm {C m : Str} (c : (Fx.sm C m).ok K = true) : ∃ p, SMet K (He.ga K C) m p (sAd K C m) := by
  obtain ⟨c1, c⟩ := He.ba c
  obtain ⟨c2, c3⟩ := He.ba c
  obtain ⟨h1, h2⟩ := He5.wrapB_ok c1
  exact ⟨_, c2, eqS_ok c3, h1, h2⟩
theorem fx_mk {C : Str} (c : (Fx.mk C).ok K = true) : Mk K (He.ga K C) (He.ma K (He.ga K C) "__init__") := by
  obtain ⟨c1, c⟩ := He.ba c
  obtain ⟨c2, c⟩ := He.ba c
  obtain ⟨c3, c4⟩ := He.ba c
  exact ⟨c1, eqS_ok c2, c3, c4⟩
end
/-! the classes among each other -/
def clsA (K : PySem.W.Frag) (cs : List Str) (k : Nat) : Addr := He.ga K (cs.getD k "")
/-- the classes stand ahead of "", the exceptions behind it -/
def nCls : List Str → Nat
  | [] => 0
  | x :: r => bif decide (x = "") then 0 else nCls r + 1
def cfB (K : PySem.W.Frag) (cs : List Str) : Bool := ((List.range (nCls cs)).all fun k => (Fx.cls (cs.getD k "")).ok K) && (((List.range (nCls cs)).all fun k => (List.range (nCls cs)).all fun j => decide (PySem.W.kitOne K (.ref (clsA K cs k)) (.ref (clsA K cs j)) = some (decide (k = j)))) &&
  ((List.range (nCls cs)).all fun j => ["NoneType", "bool", "int", "str", "tuple", "list", "dict"].all fun a => decide (PySem.W.kitOne K (.type a) (.ref (clsA K cs j)) = some false)))
theorem cf_of {K : PySem.W.Frag} {h : Heap} {mg : Str → Option Value} (X : K.In h) (G : h.Ns mainGlobals mg) {cs : List Str} {tb : List (Addr × Str)} (b : cfB K cs = true) : CF ⟨K, clsA K cs, tb⟩ (nCls cs) := by
  obtain ⟨b1, b2⟩ := He.ba b
  obtain ⟨b3, b4⟩ := He.ba b2
  have g1 : ∀ k, k < nCls cs → (Fx.cls (cs.getD k "")).ok K = true := fun k hk => List.all_eq_true.mp b1 k (List.mem_range.mpr hk)
  refine ⟨fun k hk => (fx_cls X G (g1 k hk)).2.1, fun k hk => (fx_cls X G (g1 k hk)).2.2, fun k j hk hj => ?_, fun j hj a ha => ?_⟩
  · exact of_decide_eq_true (List.all_eq_true.mp (List.all_eq_true.mp b3 k (List.mem_range.mpr hk)) j (List.mem_range.mpr hj))
  · exact of_decide_eq_true (List.all_eq_true.mp (List.all_eq_true.mp b4 j (List.mem_range.mpr hj)) a ha)
theorem cls_mg {K : PySem.W.Frag} {h : Heap} {mg : Str → Option Value} (X : K.In h) (G : h.Ns mainGlobals mg) {cs : List Str} (b : cfB K cs = true) {k : Nat} (hk : k < nCls cs) : mg (cs.getD k "") = some (.ref (clsA K cs k)) := by
  obtain ⟨b1, _⟩ := He.ba b
  exact (fx_cls X G (List.all_eq_true.mp b1 k (List.mem_range.mpr hk))).1

/-! what the module's names reach, by a mask of what is known -/
def addAs {α : Type} : List Addr → Nat → List Addr → (Nat → List Addr → α) → α
  | [], m, acc, k => k m acc
  | a :: r, m, acc, k => match Nat.testBit m a with
    | true => addAs r m acc k
    | false => HandSHeadRun.frNat (Nat.lor m (Nat.shiftLeft 1 a)) fun m => addAs r m (a :: acc) k
def levAs {α : Type} (g : Addr → Option Obj) : List Addr → Nat → List Addr → (Nat → List Addr → α) → α
  | [], m, acc, k => k m acc
  | a :: r, m, acc, k => match g a with
    | some o => addAs (He.refsD o) m acc fun m acc => levAs g r m acc k
    | none => levAs g r m acc k
def runAs (g : Addr → Option Obj) : Nat → List Addr → Nat → List Addr → List Addr
  | 0, _, _, all => all
  | n + 1, fr, m, all => levAs g fr m [] fun m new => runAs g n new m (all ++ new)
def adsB (g : Addr → Option Obj) (n : Nat) : List Addr := cStatics :: runAs g n [mainGlobals] (Nat.shiftLeft 1 mainGlobals) [mainGlobals]
/-! the hook -/
abbrev Tb : Type := Str × List (Str × Int)
abbrev AlS : Type := (Bool × List He.FnW) × List (Option (List (Option (Str × Int))))
def tbB (K : PySem.W.Frag) (t : Tb) : Bool := eqS (PySem.W.nsIn K mainGlobals t.1) (some (some (.ref (He.ga K t.1)))) && He.valsB K (He.ga K t.1) (t.2.map fun q => (q.1, He.Dv.int q.2))
def obsS (fx : List Fx) (cs : List Str) (fn : List DS) (ts : List Tb) (K : PySem.W.Frag) : AlS := (((fx.all fun f => f.ok K) && (cfB K cs && ((fn.all fun d => d.ok K) && ts.all fun t => tbB K t)), fn.map fun d => fnA K (d.at_.ad K)), ts.map fun t => He.dicW K (He.ga K t.1))
def valS (fn : List DS) (ts : List Tb) (w : World) : AlS := ((true, fn.map DS.val), ts.map fun t => some (He.keysIn w.params (t.2.map (·.1))))
def hookS (n : Nat) (fx : List Fx) (cs : List Str) (fn : List DS) (ts : List Tb) : PySem.W.Hook where
  α := AlS
  obs := fun s => obsS fx cs fn ts (He.frT s.heap.get? (adsB s.heap.get? n))
  val := fun w => valS fn ts w
  says := fun w h => ∃ K : PySem.W.Frag, K.In h ∧ obsS fx cs fn ts K = valS fn ts w
  of := fun _ _ e => ⟨_, He.frT_in, e⟩
  keeps := fun _ _ _ ⟨K, hK, c⟩ k => ⟨K, PySem.W.Frag.In.keeps hK k, c⟩
def obS (n : Nat) (fx : List Fx) (cs : List Str) (fn : List DS) (ts : List Tb) (g : Addr → Option Obj) : AlS := obsS fx cs fn ts (He.frT g (adsB g n))
theorem obS_eq {n : Nat} {fx : List Fx} {cs : List Str} {fn : List DS} {ts : List Tb} {g : Addr → Option Obj} {s : Shared} (h : ∀ a, g a = s.heap.get? a) : obS n fx cs fn ts g = (hookS n fx cs fn ts).obs s := by
  have e : g = s.heap.get? := funext h
  rw [e] <;> rfl
section
variable {fx : List Fx} {cs : List Str} {fn : List DS} {ts : List Tb} {K : PySem.W.Frag} {w : World}
theorem says_b (e : obsS fx cs fn ts K = valS fn ts w) : (fx.all fun f => f.ok K) = true ∧ cfB K cs = true ∧ (fn.all fun d => d.ok K) = true ∧ (ts.all fun t => tbB K t) = true := by
  have e1 : ((fx.all fun f => f.ok K) && (cfB K cs && ((fn.all fun d => d.ok K) && ts.all fun t => tbB K t))) = true := congrArg (fun z : AlS => z.1.1) e
  obtain ⟨h1, h2⟩ := He.ba e1
  obtain ⟨h3, h4⟩ := He.ba h2
  obtain ⟨h5, h6⟩ := He.ba h4
  exact ⟨h1, h3, h5, h6⟩
theorem says_fx (e : obsS fx cs fn ts K = valS fn ts w) (i : Nat) {f : Fx} (h : fx[i]? = some f := by rfl) : f.ok K = true := List.all_eq_true.mp (says_b e).1 f (List.mem_of_getElem? h)
theorem says_fn (e : obsS fx cs fn ts K = valS fn ts w) (i : Nat) {d : DS} (h : fn[i]? = some d := by rfl) (hc : d.clo = [] := by rfl) : ∃ fd, FunD K d.name d.qual (defArgs d.st) (defBody d.st) (defScope d.st) [] (d.kws K) (d.at_.ad K) fd := by
  have e1 : fn.map (fun d => fnA K (d.at_.ad K)) = fn.map DS.val := congrArg (fun z : AlS => z.1.2) e
  have e2 : (fn.map fun d => fnA K (d.at_.ad K))[i]? = (fn.map DS.val)[i]? := by rw [e1]
  rw [List.getElem?_map, List.getElem?_map, h] at e2
  exact DS.funD (Option.some.inj e2) (List.all_eq_true.mp (says_b e).2.2.1 d (List.mem_of_getElem? h)) hc
/-- the def itself, as it was looked at -/
theorem says_ds (e : obsS fx cs fn ts K = valS fn ts w) (i : Nat) {d : DS} (h : fn[i]? = some d := by rfl) : fnA K (d.at_.ad K) = d.val ∧ d.ok K = true := by
  have e1 : fn.map (fun d => fnA K (d.at_.ad K)) = fn.map DS.val := congrArg (fun z : AlS => z.1.2) e
  have e2 : (fn.map fun d => fnA K (d.at_.ad K))[i]? = (fn.map DS.val)[i]? := by rw [e1]
  rw [List.getElem?_map, List.getElem?_map, h] at e2
  exact ⟨Option.some.inj e2, List.all_eq_true.mp (says_b e).2.2.1 d (List.mem_of_getElem? h)⟩
theorem keys_miss {P : Params} {z : Str} : ∀ {l : List DictEntry} {ks : List Str}, l.map He.keyOf = He.keysIn P ks → z ∉ ks → l.find? (·.key.isStr z) = none ∧ l.any (·.refKey) = false
  | [], _, _, _ => ⟨rfl, rfl⟩
  | e :: r, [], h, _ => by cases h
  | e :: r, k :: ks, h, hz => by
    have h1 : He.keyOf e :: r.map He.keyOf = some (k, PyData.keyHash P k) :: He.keysIn P ks := h
    injection h1 with h2 h3
    obtain ⟨i1, i2⟩ := keys_miss h3 fun m => hz (List.mem_cons_of_mem _ m)
    obtain ⟨hs, ky, vl⟩ := e
    cases ky with
    | str x t =>
      have h4 : (x, hs) = (k, PyData.keyHash P k) := Option.some.inj h2
      obtain ⟨h5, h6⟩ := Prod.mk.inj h4
      subst h5
      have hne : (x == z) = false := by
        cases q : (x == z) with
        | false => rfl
        | true => exact absurd (by rw [beq_iff_eq.mp q]; exact List.mem_cons_self) hz
      refine ⟨?_, ?_⟩
      · rw [List.find?_cons]
        show (match (x == z) with | true => _ | false => _) = none
        rw [hne]
        exact i1
      · rw [List.any_cons, i2, Bool.or_false]
        rfl
    | _ => cases h2
theorem dicW_miss {P : Params} {a : Addr} {ks : List Str} {z : Str} (h : He.dicW K a = some (He.keysIn P ks)) (hz : z ∉ ks) : PySem.W.nsIn K a z = some none := by
  unfold He.dicW at h
  unfold PySem.W.nsIn
  split at h
  · rename_i c es n sl hk
    rw [hk]
    split at h
    · obtain ⟨h1, h2⟩ := keys_miss (Option.some.inj h) hz
      dsimp only
      rw [h1]
      dsimp only
      rw [h2]
      rfl
    · cases h
  · cases h
theorem says_tb {cls : Nat → Addr} {tb : List (Addr × Str)} {h : Heap} {mg : Str → Option Value} (X : K.In h) (G : h.Ns mainGlobals mg) (e : obsS fx cs fn ts K = valS fn ts w) (i : Nat) {t : Tb} (hi : ts[i]? = some t := by rfl) :
    ∃ ad, mg t.1 = some (.ref ad) ∧ KDt ⟨K, cls, tb⟩ w ad (t.2.map fun q => (q.1, D.int q.2)) := by
  have e1 : ts.map (fun t => He.dicW K (He.ga K t.1)) = ts.map fun t => some (He.keysIn w.params (t.2.map (·.1))) := congrArg (fun z : AlS => z.2) e
  have e2 : (ts.map fun t => He.dicW K (He.ga K t.1))[i]? = (ts.map fun t => some (He.keysIn w.params (t.2.map (·.1))))[i]? := by rw [e1]
  rw [List.getElem?_map, List.getElem?_map, hi] at e2
  obtain ⟨b1, b2⟩ := He.ba (show (eqS _ _ && He.valsB K (He.ga K t.1) _) = true from List.all_eq_true.mp (says_b e).2.2.2 t (List.mem_of_getElem? hi))
  refine ⟨_, PySem.W.mg_of X G (eqS_ok b1), He.dicW_ok (Option.some.inj e2), fun q hq => ?_, fun z hz => dicW_miss (Option.some.inj e2) fun hm => ?_⟩
  rotate_left
  · obtain ⟨q, hq, e⟩ := List.mem_map.mp hm
    exact hz _ (List.mem_map.mpr ⟨q, hq, rfl⟩) e
  obtain ⟨q0, hq0, eq⟩ := List.mem_map.mp hq
  obtain ⟨u, h1, h2⟩ := He.valsB_ok b2 (q := (q0.1, He.Dv.int q0.2)) (List.mem_map.mpr ⟨q0, hq0, rfl⟩)
  subst eq
  exact ⟨u, _, h1, h2, fun Ψ => .int _⟩
end
end Sm

/-! text: Sim20 -/
set_option Elab.async false
set_option linter.all false
set_option maxRecDepth 100000
set_option maxHeartbeats 1000000
namespace Sm
open PySem PySem.Spec PyProof.Rows L2
theorem walk_ofS {l : PySem.W.OpenLaw} {n k : Nat} {q : Program} {loose : List Str} {XP : (Str → Option Value) → Heap → Prop} {YP : World → Heap → Prop} {d : DefRec} {CX : World → CXT} {x : Str}
    (hn : l.most = some n) (hn2 : n ≤ sizeLine) (hdf : d.params.defaults = []) (hr : Room k callerA)
    (F : ∀ (w : World) (mg : Str → Option Value) (fa : Addr) (h : Heap), YP w h → h.Ns mainGlobals mg → mg d.name = some (.ref fa) →
      ∃ (K : PySem.W.Frag) (fd : FuncData) (sp : Sp), K.In h ∧ (∀ (s : Shared) (u : Value), BindsTo s fd ⟨[u], []⟩ [(x, u)]) ∧
        (∀ (H : Hp) (a : Addr) (ns : List Int), ns.length ≤ n → Only H → SqL K H a (ns.map V.int) → sp [.ref a] H (fun v _ => v = .bl true) fun _ _ _ => False) ∧
        ∀ base : Heap, K.In base → base.Ns mainGlobals mg → FnOk l.prog w K mg base (CX w) k fa fd [x] sp)
    (hCX : ∀ (w : World) (H : Hp) (s : Shared) (e : Value) (s' : Shared), CX w [] H s (fun _ _ _ => False) e s' → False) :
    PySem.W.WalkO q loose XP YP l.row.toRowW d [] (fun f vs => PySem.call f vs) := by
  refine Att.attach_call hn hdf fun w s₀ s₁ mg mb fa o pm cd doc a vs ns G Y ho hd hcd hmg hobj hints hlen hg => ?_
  obtain ⟨K, fd, sp, KX, hb, hsp, hF⟩ := F w mg fa _ Y G.T.g hmg
  exact law_call KX G.T.g G.T.b G.T.builtins G.T.nolimit hg hobj hints (Nat.le_trans hlen hn2) hr hF hb (fun H hO hS => hsp H a ns hlen hO hS) fun H e s' => hCX w H s₁ e s'
theorem cx_none {P : Program} {w : World} (H : Hp) (s : Shared) (e : Value) (s' : Shared) (h : L2.CX P w [] H s (fun _ _ _ => False) e s') : False := by
  obtain ⟨_, _, _, _, _, _, _, _, _, _, _, _, z⟩ := h
  exact z
/-- the law's promise at the script -/
theorem prom_law {c : Cf} {m : List D → M D} {H : Hp} {a : Addr} {ns : List Int} {E : XK} (htb : c.tb = []) (hl : ns.length ≤ 63) (hS : SqL c.K H a (ns.map V.int)) (hp : ∃ S', m [.scr (ns.map D.int)] [] = .ok (.bl true) S') :
    PromF c 1 m [.ref a] H (fun v _ => v = .bl true) E := by
  obtain ⟨S', e⟩ := hp
  have r : Reps c ⟨H, [], []⟩ (ns.map V.int) (ns.map D.int) := by
    clear hl hS e
    induction ns with
    | nil => exact .nil
    | cons n ns ih => exact .cons (.int n) ih
  refine ⟨⟨H, [], []⟩, [], [.scr (ns.map D.int)], ⟨fun _ _ h => h, fun a f => (by rcases f with ⟨n, p, h, _⟩ | ⟨q, h⟩ <;> simp at h), fun i j p q h => by simp at h, rfl, htb.symm, fun p hp => by simp at hp, fun p hp => by simp at hp, fun n o h => by simp at h⟩, .cons (.scr hS (by rw [List.length_map]; show _ ≤ 100000; omega) r) .nil, rfl, ?_⟩
  rw [e]
  intro Ψ' v H' _ _ rv
  cases rv
  rfl
end Sm

/-! text: Sim21 -/
set_option Elab.async false
set_option linter.all false
set_option maxRecDepth 100000
set_option maxHeartbeats 1000000
namespace Sm
open PySem PySem.W PySem.Calls PyProof.Rows HandSHeadRun
/-! ### the head's looks in parts: each a run of its own, for the memory's sake -/
/-- the state behind the top -/
noncomputable abbrev endR (R : PySem.W.OpenRow) (M : Nat) (w : World) (os : OsState) : Option PySem.W.SharedT := endF (stepQ (denQ tabQ) R.prog w) M R.prog w os
def LookOk (R : PySem.W.OpenRow) (q : Program) (M : Nat) (loose : List Str) (w : World) : Prop := ∀ os : OsState, (endR R M w os).map (fun s => (looksF R.prog (boot_heap w.params) s.abs, HandSHeadRun.seenQ q loose (importedModules R.prog.main.body) (fun s => xlAt q [] s && recOk R.toRowW.records s) s.abs)) = some (true, openGood q loose)
def PartOk (R : PySem.W.OpenRow) (M : Nat) (fx : List Fx) (cs : List Str) (fn : List DS) (ts : List Tb) (w : World) : Prop := ∀ os : OsState, (endR R M w os).map (fun s => obS 6 fx cs fn ts (getT s)) = some (valS fn ts w)
theorem obsS_app {fx fx' : List Fx} {cs : List Str} {fn fn' : List DS} {ts ts' : List Tb} {K : PySem.W.Frag} {w : World} (h : obsS fx cs fn ts K = valS fn ts w) (h' : obsS fx' [] fn' ts' K = valS fn' ts' w) : obsS (fx ++ fx') cs (fn ++ fn') (ts ++ ts') K = valS (fn ++ fn') (ts ++ ts') w := by
  obtain ⟨a1, a2, a3, a4⟩ := says_b h
  obtain ⟨b1, b2, b3, b4⟩ := says_b h'
  have e1 : fn.map (fun d => fnA K (d.at_.ad K)) = fn.map DS.val := congrArg (fun z : AlS => z.1.2) h
  have e1' : fn'.map (fun d => fnA K (d.at_.ad K)) = fn'.map DS.val := congrArg (fun z : AlS => z.1.2) h'
  have e2 : ts.map (fun t => He.dicW K (He.ga K t.1)) = ts.map fun t => some (He.keysIn w.params (t.2.map (·.1))) := congrArg (fun z : AlS => z.2) h
  have e2' : ts'.map (fun t => He.dicW K (He.ga K t.1)) = ts'.map fun t => some (He.keysIn w.params (t.2.map (·.1))) := congrArg (fun z : AlS => z.2) h'
  unfold obsS valS
  rw [List.all_append, List.all_append, List.all_append, List.map_append, List.map_append, List.map_append, List.map_append, e1, e1', e2, e2', a1, a2, a3, a4, b1, b3, b4]
  rfl
theorem part_app {R : PySem.W.OpenRow} {M : Nat} {fx fx' : List Fx} {cs : List Str} {fn fn' : List DS} {ts ts' : List Tb} {w : World} (h : PartOk R M fx cs fn ts w) (h' : PartOk R M fx' [] fn' ts' w) : PartOk R M (fx ++ fx') cs (fn ++ fn') (ts ++ ts') w := fun os => by
  have z := h os
  have z' := h' os
  cases e : endR R M w os with
  | none => rw [e] at z; cases z
  | some s =>
    rw [e] at z z'
    have y : obS 6 fx cs fn ts (getT s) = valS fn ts w := Option.some.inj z
    have y' : obS 6 fx' [] fn' ts' (getT s) = valS fn' ts' w := Option.some.inj z'
    exact congrArg some (obsS_app y y')
theorem run_parts {R : PySem.W.OpenRow} {q : Program} {M : Nat} {loose : List Str} {fx : List Fx} {cs : List Str} {fn : List DS} {ts : List Tb} {w : World} (h : LookOk R q M loose w) (h' : PartOk R M fx cs fn ts w) :
    RunEq R q (hookS 6 fx cs fn ts) (fun s => obS 6 fx cs fn ts (getT s)) M loose w := fun os => by
  have z := h os
  have z' := h' os
  show (endR R M w os).map _ = _
  cases e : endR R M w os with
  | none => rw [e] at z; cases z
  | some s =>
    rw [e] at z z'
    have y := Option.some.inj z
    have y' : obS 6 fx cs fn ts (getT s) = valS fn ts w := Option.some.inj z'
    obtain ⟨y1, y2⟩ := Prod.mk.inj y
    exact congrArg some (Prod.ext y1 (Prod.ext y2 y'))
end Sm

/-! text: Sim48 -/
set_option Elab.async false
set_option linter.all false
set_option maxRecDepth 100000
set_option maxHeartbeats 1000000
namespace Sm
open PySem PySem.Spec PyProof.Rows L2 LamX
/-! ### the head where defs hold lambdas: their tables are empty, and stand outside of K -/
def tabsA (g : Addr → Option Obj) (tf : List At) (K : PySem.W.Frag) : Bool := tf.all fun a => PySem.W.codeHdIn K (cdA K (a.ad K)) (tbA K (a.ad K)) && (match g (tbA K (a.ad K)) with
  | some o => He.emptyTab o
  | none => false)
structure SaysL (fx : List Fx) (cs : List Str) (fn : List DS) (ts : List Tb) (tf : List At) (w : World) (h : Heap) (K : PySem.W.Frag) : Prop where
  t : obsS fx cs fn ts K = valS fn ts w
  hd : ∀ a ∈ tf, PySem.W.codeHdIn K (cdA K (a.ad K)) (tbA K (a.ad K)) = true
  out : ∀ a ∈ tf, K.lookup (tbA K (a.ad K)) = none
  empty : ∀ a ∈ tf, h.get? (tbA K (a.ad K)) = some { cls := .none, data := .fields #[] }
abbrev AlL : Type := AlS × Bool
def obL (n : Nat) (fx : List Fx) (cs : List Str) (fn : List DS) (ts : List Tb) (tf : List At) (g : Addr → Option Obj) : AlL := (obS n fx cs fn ts g, tabsA g tf (He.frT g (adsB g n)))
def valL (fn : List DS) (ts : List Tb) (w : World) : AlL := (valS fn ts w, true)
theorem tabs_of {g : Addr → Option Obj} {tf : List At} {K : PySem.W.Frag} (e2 : tabsA g tf K = true) : ∀ a ∈ tf, PySem.W.codeHdIn K (cdA K (a.ad K)) (tbA K (a.ad K)) = true ∧ ∃ o, g (tbA K (a.ad K)) = some o ∧ He.emptyTab o = true := fun a ha => by
  obtain ⟨h3, h4⟩ := He.ba (List.all_eq_true.mp e2 a ha)
  refine ⟨h3, ?_⟩
  cases q : g (tbA K (a.ad K)) with
  | none => rw [q] at h4; cases h4
  | some o => rw [q] at h4; exact ⟨o, rfl, h4⟩
theorem saysL_of {n : Nat} {fx : List Fx} {cs : List Str} {fn : List DS} {ts : List Tb} {tf : List At} {w : World} {h : Heap} (e : obL n fx cs fn ts tf h.get? = valL fn ts w) : SaysL fx cs fn ts tf w h (He.frT h.get? (adsB h.get? n)) := by
  have e1 : obsS fx cs fn ts (He.frT h.get? (adsB h.get? n)) = valS fn ts w := congrArg (fun z : AlL => z.1) e
  have e2 : tabsA h.get? tf (He.frT h.get? (adsB h.get? n)) = true := congrArg (fun z : AlL => z.2) e
  have key := tabs_of e2
  exact ⟨e1, fun a ha => (key a ha).1, fun a ha => by
    obtain ⟨_, o, q, z⟩ := key a ha
    exact He.frT_none q z, fun a ha => by
    obtain ⟨_, o, q, z⟩ := key a ha
    rw [q, He.emptyTab_eq z]⟩
def hookL (n : Nat) (fx : List Fx) (cs : List Str) (fn : List DS) (ts : List Tb) (tf : List At) : PySem.W.Hook where
  α := AlL
  obs := fun s => obL n fx cs fn ts tf s.heap.get?
  val := fun w => valL fn ts w
  says := fun w h => ∃ K : PySem.W.Frag, K.In h ∧ SaysL fx cs fn ts tf w h K
  of := fun _ _ e => ⟨_, He.frT_in, saysL_of e⟩
  keeps := fun _ _ _ ⟨K, hK, c⟩ k => ⟨K, PySem.W.Frag.In.keeps hK k, ⟨c.t, c.hd, c.out, fun a ha => k _ _ (c.empty a ha)⟩⟩
theorem obL_eq {n : Nat} {fx : List Fx} {cs : List Str} {fn : List DS} {ts : List Tb} {tf : List At} {g : Addr → Option Obj} {s : Shared} (h : ∀ a, g a = s.heap.get? a) : obL n fx cs fn ts tf g = (hookL n fx cs fn ts tf).obs s := by
  have e : g = s.heap.get? := funext h
  rw [e] <;> rfl
/-! in parts -/
def TabPart (R : PySem.W.OpenRow) (M : Nat) (tf : List At) (w : World) : Prop := ∀ os : OsState, (endR R M w os).map (fun s => tabsA (HandSHeadRun.getT s) tf (He.frT (HandSHeadRun.getT s) (adsB (HandSHeadRun.getT s) 6))) = some true
theorem run_partsL {R : PySem.W.OpenRow} {q : Program} {M : Nat} {loose : List Str} {fx : List Fx} {cs : List Str} {fn : List DS} {ts : List Tb} {tf : List At} {w : World} (h : LookOk R q M loose w) (h' : PartOk R M fx cs fn ts w) (ht : TabPart R M tf w) :
    HandSHeadRun.RunEq R q (hookL 6 fx cs fn ts tf) (fun s => obL 6 fx cs fn ts tf (HandSHeadRun.getT s)) M loose w := fun os => by
  have z := h os
  have z' := h' os
  have z2 := ht os
  show (endR R M w os).map _ = _
  cases e : endR R M w os with
  | none => rw [e] at z; cases z
  | some s =>
    rw [e] at z z' z2
    have y := Option.some.inj z
    have y' : obS 6 fx cs fn ts (HandSHeadRun.getT s) = valS fn ts w := Option.some.inj z'
    have y2 : tabsA (HandSHeadRun.getT s) tf (He.frT (HandSHeadRun.getT s) (adsB (HandSHeadRun.getT s) 6)) = true := Option.some.inj z2
    obtain ⟨y1, y3⟩ := Prod.mk.inj y
    exact congrArg some (Prod.ext y1 (Prod.ext y3 (Prod.ext y' y2)))
/-! the end -/
theorem lamT_of {c : Cf} {base : Heap} {mg : Str → Option Value} {K : PySem.W.Frag} {tq : List (At × Str)} (hK : c.K = K) (htb : c.tb = tbs K tq) (hu : tbsB K tq = true) (TB : ∀ p ∈ cds K tq, TabB base mg p.1 p.2) {t : At × Str} (ht : t ∈ tq) : LamT c base mg (t.1.ad K) t.2 := by
  subst hK
  refine ⟨TB _ (List.mem_map.mpr ⟨t, ht, rfl⟩), by rw [htb]; exact List.mem_map.mpr ⟨t, ht, rfl⟩, fun p hp e => ?_⟩
  rw [htb] at hp
  obtain ⟨u, hu', rfl⟩ := List.mem_map.mp hp
  have h := List.all_eq_true.mp (List.all_eq_true.mp hu t ht) u hu'
  have e' : tbA c.K (t.1.ad c.K) = tbA c.K (u.1.ad c.K) := e.symm
  rw [decide_eq_true e', Bool.not_true, Bool.false_or] at h
  rw [of_decide_eq_true h]
theorem lawL_of {fx : List Fx} {cs : List Str} {fn : List DS} {ts : List Tb} {tq : List (At × Str)} {w : World} {h : Heap} {K : PySem.W.Frag} (Y : SaysL fx cs fn ts (tq.map (·.1)) w h K) (KX : K.In h) :
    (∀ p ∈ cds K tq, h.get? p.2 = some { cls := .none, data := .fields #[] }) ∧ (∀ p ∈ cds K tq, K.lookup p.2 = none) ∧ ∀ p ∈ cds K tq, PySem.W.CodeHd h p.1 p.2 := by
  have key : ∀ p ∈ cds K tq, ∃ a ∈ tq.map (·.1), p = (cdA K (a.ad K), tbA K (a.ad K)) := fun p hp => by
    obtain ⟨t, ht, rfl⟩ := List.mem_map.mp hp
    exact ⟨t.1, List.mem_map.mpr ⟨t, ht, rfl⟩, rfl⟩
  refine ⟨fun p hp => ?_, fun p hp => ?_, fun p hp => ?_⟩
  · obtain ⟨a, ha, rfl⟩ := key p hp; exact Y.empty a ha
  · obtain ⟨a, ha, rfl⟩ := key p hp; exact Y.out a ha
  · obtain ⟨a, ha, rfl⟩ := key p hp; exact PySem.W.codeHd_of_K KX (Y.hd a ha)
theorem tb_of {tq : List (At × Str)} {K : PySem.W.Frag} {H : Hp} (h : ∀ p ∈ cds K tq, H p.2 = some (.tbl #[])) : ∀ p ∈ tbs K tq, H p.1 = some (.tbl #[]) := fun p hp => by
  obtain ⟨t, ht, rfl⟩ := List.mem_map.mp hp
  exact h _ (List.mem_map.mpr ⟨t, ht, rfl⟩)
theorem prom_lawL {c : Cf} {m : List D → M D} {H : Hp} {a : Addr} {ns : List Int} {E : XK} (hl : ns.length ≤ 63) (hT : ∀ p ∈ c.tb, H p.1 = some (.tbl #[])) (hS : SqL c.K H a (ns.map V.int)) (hp : ∃ S', m [.scr (ns.map D.int)] [] = .ok (.bl true) S') :
    PromF c 1 m [.ref a] H (fun v _ => v = .bl true) E := by
  obtain ⟨S', e⟩ := hp
  -- what is known: all but the tables
  have hfz : ∀ b o, (fun b => match H b with | some (.tbl _) => none | x => x) b = some o → H b = some o := fun b o h => by
    dsimp only at h
    split at h
    · cases h
    · exact h
  have r : Reps c ⟨fun b => match H b with | some (.tbl _) => none | x => x, [], c.tb⟩ (ns.map V.int) (ns.map D.int) := by
    clear hl hS e
    induction ns with
    | nil => exact .nil
    | cons n ns ih => exact .cons (.int n) ih
  have hS' : SqL c.K (fun b => match H b with | some (.tbl _) => none | x => x) a (ns.map V.int) := by
    rcases hS with (h | ⟨o, h⟩) | h
    · exact .inl (.inl (by dsimp only; rw [h]))
    · exact .inl (.inr ⟨o, by dsimp only; rw [h]⟩)
    · exact .inr h
  refine ⟨⟨fun b => match H b with | some (.tbl _) => none | x => x, [], c.tb⟩, [], [.scr (ns.map D.int)], ⟨hfz, fun b f => ?_, fun i j p q h => by simp at h, rfl, rfl, fun p hp => ⟨#[], hT p hp, True.intro, fun pos cv hc => ?_⟩, fun p hp n s h => by simp at h, fun n o h => by simp at h⟩, .cons (.scr hS' (by rw [List.length_map]; show _ ≤ 100000; omega) r) .nil, rfl, ?_⟩
  · rcases f with ⟨n, p, h, _⟩ | ⟨q, h⟩
    · simp at h
    · have h2 := hT _ h
      show (match H b with | some (.tbl _) => none | x => x) = none
      rw [show H b = _ from h2]
  · have z : codeAmong pos [] = some cv := hc
    simp [codeAmong] at z
  · rw [e]
    intro Ψ' v H' _ _ rv
    cases rv
    rfl
end Sm

/-! text: Q1 -/
set_option Elab.async false
set_option linter.all false
set_option maxRecDepth 100000
set_option maxHeartbeats 1000000
/-! P1 -/
namespace Sm
open PySem PySem.Spec L2
/-! ### how the mirrors are worked out -/
@[simp] theorem e_bd {α β : Type} (m : M α) (f : α → M β) (S : Sto) : bd m f S = match m S with
  | .ok a S' => f a S'
  | .err k fs S' => .err k fs S'
  | .stuck => .stuck := rfl
@[simp] theorem e_rt {α : Type} (a : α) (S : Sto) : rt a S = .ok a S := rfl
@[simp] theorem e_stk {α : Type} (S : Sto) : (stk : M α) S = .stuck := rfl
theorem e_callM {n : Nat} {m : List D → M D} {ds : List D} (h : ds.length = n) (S : Sto) : callM n m ds S = m ds S := by
  unfold callM
  split
  · rfl
  · rename_i h2 _; exact absurd h h2
@[simp] theorem e_call0 (m : List D → M D) (S : Sto) : callM 0 m [] S = m [] S := e_callM (ds := []) rfl S
@[simp] theorem e_call1 (m : List D → M D) (a : D) (S : Sto) : callM 1 m [a] S = m [a] S := e_callM (ds := [a]) rfl S
@[simp] theorem e_call2 (m : List D → M D) (a b : D) (S : Sto) : callM 2 m [a, b] S = m [a, b] S := e_callM (ds := [a, b]) rfl S
@[simp] theorem e_call3 (m : List D → M D) (a b c : D) (S : Sto) : callM 3 m [a, b, c] S = m [a, b, c] S := e_callM (ds := [a, b, c]) rfl S
@[simp] theorem e_call4 (m : List D → M D) (a b c d : D) (S : Sto) : callM 4 m [a, b, c, d] S = m [a, b, c, d] S := e_callM (ds := [a, b, c, d]) rfl S
@[simp] theorem e_call5 (m : List D → M D) (a b c d e : D) (S : Sto) : callM 5 m [a, b, c, d, e] S = m [a, b, c, d, e] S := e_callM (ds := [a, b, c, d, e]) rfl S
@[simp] theorem e_call6 (m : List D → M D) (a b c d e f : D) (S : Sto) : callM 6 m [a, b, c, d, e, f] S = m [a, b, c, d, e, f] S := e_callM (ds := [a, b, c, d, e, f]) rfl S
@[simp] theorem e_seqS (a b : Env → M Out) (ρ : Env) (S : Sto) : seqS a b ρ S = match a ρ S with
  | .ok (.nx ρ') S' => b ρ' S'
  | .ok o S' => .ok o S'
  | .err k fs S' => .err k fs S'
  | .stuck => .stuck := by
  show bd (a ρ) _ S = _
  rw [e_bd]
  cases a ρ S with
  | ok o S' => cases o <;> rfl
  | err k fs S' => rfl
  | stuck => rfl
@[simp] theorem e_nextS (ρ : Env) (S : Sto) : nextS ρ S = .ok (.nx ρ) S := rfl
@[simp] theorem e_boolT (m : M D) (S : Sto) : boolT m S = match m S with
  | .ok a S' => asB a S'
  | .err k fs S' => .err k fs S'
  | .stuck => .stuck := by
  show bd m asB S = _
  rw [e_bd]
  cases m S <;> rfl
@[simp] theorem e_asB (b : Bool) (S : Sto) : asB (.bl b) S = .ok b S := rfl
@[simp] theorem e_asI (i : Int) (S : Sto) : asI (.int i) S = .ok (some i) S := rfl
@[simp] theorem e_o2 (f : D → D → Sto → Option D) (a b : M D) (S : Sto) : o2 f a b S = match a S with
  | .ok x S1 => (match b S1 with
    | .ok y S2 => op2 f x y S2
    | .err k fs S' => .err k fs S'
    | .stuck => .stuck)
  | .err k fs S' => .err k fs S'
  | .stuck => .stuck := by
  show bd a (fun x => bd b fun y => op2 f x y) S = _
  rw [e_bd]
  cases a S with
  | ok x S1 =>
    show bd b (fun y => op2 f x y) S1 = (match b S1 with
      | .ok y S2 => op2 f x y S2
      | .err k fs S' => .err k fs S'
      | .stuck => .stuck)
    rw [e_bd]
    cases b S1 <;> rfl
  | err k fs S' => rfl
  | stuck => rfl
@[simp] theorem e_op2 (f : D → D → Sto → Option D) (x y : D) (S : Sto) : op2 f x y S = match f x y S with
  | some d => .ok d S
  | none => .stuck := rfl
@[simp] theorem e_iteM {α : Type} (b : Bool) (x y : M α) (S : Sto) : iteM b x y S = if b = true then x S else y S := by cases b <;> rfl
@[simp] theorem e_vl (ρ : Env) (i : Nat) (S : Sto) : vl ρ i S = match ρ[i]? with
  | some (.val d) => .ok d S
  | _ => .stuck := rfl
@[simp] theorem e_vb (ρ : Env) (i : Nat) (S : Sto) : vb ρ i S = match ρ[i]? with
  | some (.val d) => .ok d S
  | some (.own ds) => .ok (.lst ds) S
  | _ => .stuck := rfl
@[simp] theorem e_consM {α : Type} (m : M α) (ms : M (List α)) (S : Sto) : consM m ms S = match m S with
  | .ok x S1 => (match ms S1 with
    | .ok xs S2 => .ok (x :: xs) S2
    | .err k fs S' => .err k fs S'
    | .stuck => .stuck)
  | .err k fs S' => .err k fs S'
  | .stuck => .stuck := by
  show bd m (fun x => bd ms fun xs => rt (x :: xs)) S = _
  rw [e_bd]
  cases m S with
  | ok x S1 =>
    show bd ms (fun xs => rt (x :: xs)) S1 = (match ms S1 with
      | .ok xs S2 => .ok (x :: xs) S2
      | .err k fs S' => .err k fs S'
      | .stuck => .stuck)
    rw [e_bd]
    cases ms S1 <;> rfl
  | err k fs S' => rfl
  | stuck => rfl
@[simp] theorem e_c1 (f : List D → Sto → Option D) (m : M (List D)) (S : Sto) : c1 f m S = match m S with
  | .ok ds S1 => (match f ds S1 with
    | some d => .ok d S1
    | none => .stuck)
  | .err k fs S' => .err k fs S'
  | .stuck => .stuck := by
  unfold c1 bd
  cases m S with
  | ok ds S1 =>
    show opC f ds S1 = (match f ds S1 with
      | some d => .ok d S1
      | none => .stuck)
    unfold opC
    cases f ds S1 <;> rfl
  | err k fs S' => rfl
  | stuck => rfl
@[simp] theorem e_setV (i : Nat) (m : Env → M D) (ρ : Env) (S : Sto) : setV i m ρ S = match m ρ S with
  | .ok d S' => .ok (.nx (ρ.set i (.val d))) S'
  | .err k fs S' => .err k fs S'
  | .stuck => .stuck := by
  unfold setV bd
  cases m ρ S <;> rfl
@[simp] theorem e_setN (i : Nat) (m : Env → M (List D)) (ρ : Env) (S : Sto) : setN i m ρ S = match m ρ S with
  | .ok d S' => .ok (.nx (ρ.set i (.own d))) S'
  | .err k fs S' => .err k fs S'
  | .stuck => .stuck := by
  unfold setN bd
  cases m ρ S <;> rfl
@[simp] theorem e_fnM (n : Nat) (mb : Env → M Out) (ds : List D) (S : Sto) : fnM n mb ds S = match mb (ds.map Slot.val ++ List.replicate (n - ds.length) .no) S with
  | .ok (.nx _) S' => .ok .non S'
  | .ok (.ret d) S' => .ok d S'
  | .ok _ _ => .stuck
  | .err k fs S' => .err k fs S'
  | .stuck => .stuck := by
  show bd (mb _) outM S = _
  rw [e_bd]
  cases mb (ds.map Slot.val ++ List.replicate (n - ds.length) .no) S with
  | ok o S' => cases o <;> rfl
  | err k fs S' => rfl
  | stuck => rfl
theorem e_range1 {m : M (List D)} {S S' : Sto} {n : Nat} (h : m S = .ok [.int n] S') (hn : n ≤ 90000) : range1M m S = .ok (rng 0 n) S' := by
  unfold range1M bd
  rw [h]
  have e : inI (n : Int) = true := by
    unfold inI
    rw [decide_eq_true (by omega), decide_eq_true (by omega)]; rfl
  show (if inI (n : Int) = true then _ else _) = _
  rw [if_pos e]
  simp
/-! ints -/
@[simp] theorem e_lt (i j : Int) (S : Sto) : ltI (.int i) (.int j) S = some (.bl (decide (i < j))) := rfl
@[simp] theorem e_le (i j : Int) (S : Sto) : leI (.int i) (.int j) S = some (.bl (decide (i ≤ j))) := rfl
@[simp] theorem e_gt (i j : Int) (S : Sto) : gtI (.int i) (.int j) S = some (.bl (decide (j < i))) := rfl
@[simp] theorem e_ge (i j : Int) (S : Sto) : geI (.int i) (.int j) S = some (.bl (decide (j ≤ i))) := rfl
@[simp] theorem e_add (i j : Int) (S : Sto) : addA (.int i) (.int j) S = some (.int (i + j)) := rfl
@[simp] theorem e_sub (i j : Int) (S : Sto) : subI (.int i) (.int j) S = some (.int (i - j)) := rfl
theorem e_mul {i j : Int} (h : (-2 ^ 64 < i ∧ i < 2 ^ 64) ∨ (-2 ^ 64 < j ∧ j < 2 ^ 64)) (S : Sto) : mulA (.int i) (.int j) S = some (.int (i * j)) := by
  have e : mulI (.int i) (.int j) S = some (.int (i * j)) := by
    show (if _ = true then _ else _) = _
    rw [if_pos]
    simp only [smallI, Bool.or_eq_true, Bool.and_eq_true, decide_eq_true_eq]
    exact h
  unfold mulA orD
  rw [e]
theorem e_div {i j : Int} (h : 0 < j) (h2 : j < 2 ^ 1000) (S : Sto) : divI (.int i) (.int j) S = some (.int (i / j)) := by
  show (if _ = true then _ else _) = _
  rw [if_pos]
  simp only [Bool.and_eq_true, decide_eq_true_eq]
  exact ⟨h, h2⟩
theorem e_mod {i j : Int} (h : 0 < j) (S : Sto) : modI (.int i) (.int j) S = some (.int (i % j)) := by
  show (if decide (0 < j) = true then some (D.int (i % j)) else none) = _
  rw [if_pos (decide_eq_true h)]
@[simp] theorem e_ixT (ds : List D) (i : Int) (S : Sto) : ixD (.tup ds) (.int i) S = L2.atI ds i := rfl
@[simp] theorem e_ixL (ds : List D) (i : Int) (S : Sto) : ixD (.lst ds) (.int i) S = L2.atI ds i := rfl
theorem e_ixR {n : Nat} {ds : List D} {S : Sto} (h : S[n]? = some (.lst ds)) (i : Int) : ixD (.ref n) (.int i) S = L2.atI ds i := by
  show (match S[n]? with | some (.lst ds) => L2.atI ds i | _ => none) = _
  rw [h]
@[simp] theorem e_at0 {α : Type} (a : α) (r : List α) : L2.atI (a :: r) 0 = some a := by
  have := L2.atI_nat (xs := a :: r) (j := 0) (v := a) rfl
  simpa using this
@[simp] theorem e_at1 {α : Type} (a b : α) (r : List α) : L2.atI (a :: b :: r) 1 = some b := by
  have := L2.atI_nat (xs := a :: b :: r) (j := 1) (v := b) rfl
  simpa using this
@[simp] theorem e_at2 {α : Type} (a b c : α) (r : List α) : L2.atI (a :: b :: c :: r) 2 = some c := by
  have := L2.atI_nat (xs := a :: b :: c :: r) (j := 2) (v := c) rfl
  simpa using this
@[simp] theorem e_lenL (ds : List D) (S : Sto) : lenD [.lst ds] S = some (.int ds.length) := rfl
@[simp] theorem e_lenT (ds : List D) (S : Sto) : lenD [.tup ds] S = some (.int ds.length) := rfl
@[simp] theorem e_int (i : Int) (S : Sto) : intD [.int i] S = some (.int i) := rfl
@[simp] theorem e_tupM (m : M (List D)) (S : Sto) : tupM m S = match m S with
  | .ok ds S' => if ds.length ≤ 100000 then .ok (.tup ds) S' else .stuck
  | .err k fs S' => .err k fs S'
  | .stuck => .stuck := by
  unfold tupM bd
  cases m S <;> rfl
@[simp] theorem e_lstM (m : M (List D)) (S : Sto) : lstM m S = match m S with
  | .ok ds S' => if ds.length ≤ 100000 then .ok ds S' else .stuck
  | .err k fs S' => .err k fs S'
  | .stuck => .stuck := by
  unfold lstM bd
  cases m S <;> rfl
theorem e_tup {m : M (List D)} {S S' : Sto} {ds : List D} (h : m S = .ok ds S') (hl : ds.length ≤ 100000) : tupM m S = .ok (.tup ds) S' := by
  unfold tupM bd
  rw [h]
  exact if_pos hl
end Sm
/-! P4 -/
namespace Sm
open PySem PySem.Spec L2
theorem beqS (a b : Str) : (a == b) = decide (a = b) := by
  by_cases h : a = b
  · subst h; rw [decide_eq_true rfl]; exact beq_self_eq_true a
  · rw [decide_eq_false h]; exact beq_eq_false_iff_ne.mpr h
theorem beqI (a b : Int) : (a == b) = decide (a = b) := by
  by_cases h : a = b
  · subst h; rw [decide_eq_true rfl]; exact beq_self_eq_true a
  · rw [decide_eq_false h]; exact beq_eq_false_iff_ne.mpr h
@[simp] theorem e_eqSS (a b : Str) (S : Sto) : eqD (.str a) (.str b) S = some (.bl (decide (a = b))) := by
  unfold eqD
  simp [D.py, PyData.eqv, PyData.depth, beqS, beqI]
@[simp] theorem e_neSS (a b : Str) (S : Sto) : neD (.str a) (.str b) S = some (.bl (!decide (a = b))) := by
  unfold neD
  simp [D.py, PyData.eqv, PyData.depth, beqS, beqI]
@[simp] theorem e_eqII (a b : Int) (S : Sto) : eqD (.int a) (.int b) S = some (.bl (decide (a = b))) := by
  unfold eqD
  simp [D.py, PyData.eqv, PyData.depth, beqS, beqI]
@[simp] theorem e_neII (a b : Int) (S : Sto) : neD (.int a) (.int b) S = some (.bl (!decide (a = b))) := by
  unfold neD
  simp [D.py, PyData.eqv, PyData.depth, beqS, beqI]
@[simp] theorem e_inS2 (x a b : Str) (S : Sto) : inD false (.str x) (.tup [.str a, .str b]) S = some (.bl (decide (a = x) || decide (b = x))) := by
  unfold inD
  simp [D.py, D.pys, PyData.eqv, PyData.depth, PyData.depthAll, anyE, beqS]
end Sm
/-! P5 -/
namespace Sm
open PySem PySem.Spec L2
/-! ### loops and comprehensions by what stays true -/
theorem for_inv {t : Tg} {b : Env → M Out} {I : Nat → Env → Sto → Prop} : ∀ (ds : List D) (k : Nat) (ρ : Env) (S : Sto), I k ρ S →
    (∀ i d ρ S, ds[i]? = some d → I (k + i) ρ S → ∃ ρ' ρ2 S2, bindD t d ρ = some ρ' ∧ (b ρ' S = .ok (.nx ρ2) S2 ∨ b ρ' S = .ok (.ct ρ2) S2) ∧ I (k + i + 1) ρ2 S2) →
    ∃ ρ' S', Sm.forM t b ds ρ S = .ok (.nx ρ') S' ∧ I (k + ds.length) ρ' S'
  | [], k, ρ, S, h, _ => ⟨ρ, S, rfl, h⟩
  | d :: ds, k, ρ, S, h, st => by
    obtain ⟨ρ', ρ2, S2, h1, h2, h3⟩ := st 0 d ρ S rfl h
    obtain ⟨ρ3, S3, h4, h5⟩ := for_inv ds (k + 1) ρ2 S2 h3 fun i d ρ S hd hi => by
      have e : k + 1 + i = k + (i + 1) := by omega
      rw [e] at hi ⊢
      exact st (i + 1) d ρ S (by simpa using hd) hi
    refine ⟨ρ3, S3, ?_, ?_⟩
    · unfold Sm.forM
      rw [h1]
      rcases h2 with h2 | h2 <;> (simp only [e_bd, h2]; exact h4)
    · have e : k + (d :: ds).length = k + 1 + ds.length := by rw [List.length_cons]; omega
      rw [e]; exact h5
theorem lc_inv {bnd : D → Option Env} {e : Env → M D} {P : D → Prop} {I : Sto → Prop} : ∀ (ds : List D) (S : Sto), I S → (∀ d ∈ ds, ∃ ρ, bnd d = some ρ ∧ ∀ S, I S → ∃ y S', e ρ S = .ok y S' ∧ P y ∧ I S') →
    ∃ ys S', noX (lcM bnd (fun _ => rt true) e ds) S = .ok ys S' ∧ lcM bnd (fun _ => rt true) e ds S = .ok ys S' ∧ ys.length = ds.length ∧ (∀ y ∈ ys, P y) ∧ I S'
  | [], S, h, _ => ⟨[], S, rfl, rfl, rfl, fun _ h => by (cases h), h⟩
  | d :: ds, S, h, st => by
    obtain ⟨ρ, h1, h2⟩ := st d List.mem_cons_self
    obtain ⟨y, S1, h3, h4, h5⟩ := h2 S h
    obtain ⟨ys, S2, h6, h7, h8, h9, h10⟩ := lc_inv ds S1 h5 fun d hd => st d (List.mem_cons_of_mem _ hd)
    have key : lcM bnd (fun _ => rt true) e (d :: ds) S = .ok (y :: ys) S2 := by
      unfold lcM
      rw [h1]
      simp [h3, h7]
    refine ⟨y :: ys, S2, ?_, key, by simp [h8], fun z hz => ?_, h10⟩
    · unfold noX
      rw [key]
    · rcases List.mem_cons.mp hz with rfl | hz
      · exact h4
      · exact h9 z hz
theorem list_of {α : Type} {f : α → D} {Q : α → Prop} : ∀ {ys : List D}, (∀ y ∈ ys, ∃ a, y = f a ∧ Q a) → ∃ as : List α, ys = as.map f ∧ ∀ a ∈ as, Q a
  | [], _ => ⟨[], rfl, fun _ h => by (cases h)⟩
  | y :: ys, h => by
    obtain ⟨a, e, q⟩ := h y List.mem_cons_self
    obtain ⟨as, e2, q2⟩ := list_of (ys := ys) fun z hz => h z (List.mem_cons_of_mem _ hz)
    refine ⟨a :: as, by rw [e, e2]; rfl, fun b hb => ?_⟩
    rcases List.mem_cons.mp hb with rfl | hb
    · exact q
    · exact q2 b hb
@[simp] theorem e_tupleL (ds : List D) (S : Sto) : tupleD [.lst ds] S = some (.tup ds) := rfl
@[simp] theorem e_tupleT (ds : List D) (S : Sto) : tupleD [.tup ds] S = some (.tup ds) := rfl
theorem e_appS {i : Nat} {m : Env → M D} {ρ : Env} {S S' : Sto} {ds : List D} {d : D} (h : ρ[i]? = some (.own ds)) (h1 : m ρ S = .ok d S') (hl : ds.length < 100000) : appS i m ρ S = .ok (.nx (ρ.set i (.own (ds ++ [d])))) S' := by
  unfold appS bd ownAt
  simp only [h, h1]
  exact if_pos hl
end Sm
/-! P7 -/
namespace Sm
open PySem PySem.Spec L2
@[simp] theorem e_orT (a b : M Bool) (S : Sto) : orT a b S = match a S with
  | .ok true S' => .ok true S'
  | .ok false S' => b S'
  | .err k fs S' => .err k fs S'
  | .stuck => .stuck := by
  unfold orT bd
  cases a S with
  | ok x S' => cases x <;> rfl
  | err k fs S' => rfl
  | stuck => rfl
@[simp] theorem e_andT (a b : M Bool) (S : Sto) : andT a b S = match a S with
  | .ok true S' => b S'
  | .ok false S' => .ok false S'
  | .err k fs S' => .err k fs S'
  | .stuck => .stuck := by
  unfold andT bd
  cases a S with
  | ok x S' => cases x <;> rfl
  | err k fs S' => rfl
  | stuck => rfl
@[simp] theorem e_notT (a : M Bool) (S : Sto) : notT a S = match a S with
  | .ok b S' => .ok (!b) S'
  | .err k fs S' => .err k fs S'
  | .stuck => .stuck := by
  unfold notT bd
  cases a S <;> rfl
theorem e_negI {m : M D} {S S' : Sto} {i : Int} (h : m S = .ok (.int i) S') : negM m S = .ok (.int (-i)) S' := by
  unfold negM bd
  rw [h]
@[simp] theorem e_neg1 (i : Int) (S : Sto) : negM (rt (.int i)) S = .ok (.int (-i)) S := e_negI rfl
@[simp] theorem e_atm2 {α : Type} (a b : α) : L2.atI [a, b] (-1) = some b := L2.atI_last [a] b
@[simp] theorem e_atm3 {α : Type} (a b c : α) : L2.atI [a, b, c] (-1) = some c := L2.atI_last [a, b] c
@[simp] theorem e_op1 (f : D → Sto → Option D) (x : D) (S : Sto) : op1 f x S = match f x S with
  | some d => .ok d S
  | none => .stuck := rfl
@[simp] theorem e_isN0 (S : Sto) (b : Bool) : isN b .non S = some (.bl (!b)) := rfl
@[simp] theorem e_isNi (i : Int) (S : Sto) (b : Bool) : isN b (.int i) S = some (.bl b) := rfl
@[simp] theorem e_isNt (ds : List D) (S : Sto) (b : Bool) : isN b (.tup ds) S = some (.bl b) := rfl
@[simp] theorem e_isNs (z : Str) (S : Sto) (b : Bool) : isN b (.str z) S = some (.bl b) := rfl
end Sm
/-! P10 -/
namespace Sm
open PySem PySem.Spec L2
@[simp] theorem e_andV (a b : M D) (S : Sto) : andV a b S = match a S with
  | .ok (.bl true) S' => b S'
  | .ok (.bl false) S' => .ok (.bl false) S'
  | .ok _ _ => .stuck
  | .err k fs S' => .err k fs S'
  | .stuck => .stuck := by
  unfold andV bd
  cases a S with
  | ok x S' =>
    cases x with
    | bl t => cases t <;> rfl
    | _ => rfl
  | err k fs S' => rfl
  | stuck => rfl
@[simp] theorem e_orV (a b : M D) (S : Sto) : orV a b S = match a S with
  | .ok (.bl true) S' => .ok (.bl true) S'
  | .ok (.bl false) S' => b S'
  | .ok _ _ => .stuck
  | .err k fs S' => .err k fs S'
  | .stuck => .stuck := by
  unfold orV bd
  cases a S with
  | ok x S' =>
    cases x with
    | bl t => cases t <;> rfl
    | _ => rfl
  | err k fs S' => rfl
  | stuck => rfl
@[simp] theorem e_notV (a : M D) (S : Sto) : notV a S = match a S with
  | .ok (.bl t) S' => .ok (.bl (!t)) S'
  | .ok _ _ => .stuck
  | .err k fs S' => .err k fs S'
  | .stuck => .stuck := by
  unfold notV bd
  cases a S with
  | ok x S' => cases x <;> rfl
  | err k fs S' => rfl
  | stuck => rfl
theorem e_chain {f g : D → D → Sto → Option D} {x y z : M D} {S : Sto} {a b d : D} {t u : Bool} (h1 : x S = .ok a S) (h2 : y S = .ok b S) (h4 : z S = .ok d S) (h3 : f a b S = some (.bl t)) (h5 : g b d S = some (.bl u)) : chainM f g x y z S = .ok (.bl (t && u)) S := by
  unfold chainM
  simp only [e_bd, h1, h2, e_op2, h3, e_asB, e_iteM]
  cases t with
  | true => simp [h4, h5]
  | false => simp
@[simp] theorem e_isi_ii (i : Int) (S : Sto) : isiD [.int i, .ty "int"] S = some (.bl true) := rfl
@[simp] theorem e_isi_ib (i : Int) (S : Sto) : isiD [.int i, .ty "bool"] S = some (.bl false) := rfl
@[simp] theorem e_isi_ss (i : Str) (S : Sto) : isiD [.str i, .ty "str"] S = some (.bl true) := rfl
@[simp] theorem e_isi_is (i : Int) (S : Sto) : isiD [.int i, .ty "str"] S = some (.bl false) := rfl
@[simp] theorem e_isi_tt (ds : List D) (S : Sto) : isiD [.tup ds, .ty "tuple"] S = some (.bl true) := rfl
@[simp] theorem e_isi_il (i : Int) (S : Sto) : isiD [.int i, .ty "list"] S = some (.bl false) := rfl
@[simp] theorem e_isi_ll (ds : List D) (S : Sto) : isiD [.lst ds, .ty "list"] S = some (.bl true) := rfl
end Sm
/-! P12 -/
namespace Sm
open PySem PySem.Spec L2
@[simp] theorem e_sl2 (a b : D) (S : Sto) : sliceT (.tup [a, b]) (some 1) none S = .ok (.tup [b]) S := rfl
@[simp] theorem e_sl3 (a b c : D) (S : Sto) : sliceT (.tup [a, b, c]) (some 1) none S = .ok (.tup [b, c]) S := rfl
@[simp] theorem e_parS2 (i j : Nat) (m : Env → M (List Slot)) (ρ : Env) (S : Sto) : parS [i, j] 2 m ρ S = match m ρ S with
  | .ok [a, b] S' => .ok (.nx ((ρ.set i a).set j b)) S'
  | .ok _ _ => .stuck
  | .err k fs S' => .err k fs S'
  | .stuck => .stuck := by
  unfold parS bd
  cases m ρ S with
  | ok ss S' =>
    match ss with
    | [] => rfl
    | [_] => rfl
    | [_, _] => rfl
    | _ :: _ :: _ :: r => simp
  | err k fs S' => rfl
  | stuck => rfl
end Sm
/-! P13 -/
namespace Sm
open PySem PySem.Spec L2
@[simp] theorem e_slot00 (d : D) (r : List D) (S : Sto) : slotM 0 0 (.ins 0 (d :: r)) S = .ok d S := rfl
@[simp] theorem e_slot10 (d : D) (r : List D) (S : Sto) : slotM 1 0 (.ins 1 (d :: r)) S = .ok d S := rfl
@[simp] theorem e_ins0 (fs : List D) (S : Sto) : insM 0 (.ins 0 fs) S = .ok (.ins 0 fs) S := rfl
@[simp] theorem e_ins1 (fs : List D) (S : Sto) : insM 1 (.ins 1 fs) S = .ok (.ins 1 fs) S := rfl
@[simp] theorem e_iso00 (fs : List D) (S : Sto) : isoD 1 [.ins 0 fs, .cls 0] S = some (.bl true) := rfl
@[simp] theorem e_noX {α : Type} (m : M α) (S : Sto) : noX m S = match m S with
  | .ok a S' => .ok a S'
  | _ => .stuck := rfl
end Sm
/-! P15 -/
namespace Sm
open PySem PySem.Spec L2
theorem cut_to (ds : List D) (k : Nat) (S : Sto) : sliceL (.lst ds) none (some (k : Int)) S = .ok (ds.take k) S := by
  show Res.ok (cutL ds none (some (k : Int))) S = _
  unfold cutL
  rw [HT.sIx_nat, HT.sIx_none, List.drop_zero, Nat.sub_zero]
  congr 1
  by_cases h : k ≤ ds.length
  · rw [Nat.min_eq_left h]
  · rw [Nat.min_eq_right (by omega), List.take_of_length_le (Nat.le_refl _), List.take_of_length_le (by omega)]
theorem cut_from (ds : List D) (k : Nat) (S : Sto) : sliceL (.lst ds) (some (k : Int)) none S = .ok (ds.drop k) S := by
  show Res.ok (cutL ds (some (k : Int)) none) S = _
  unfold cutL
  rw [HT.sIx_nat, HT.sIx_none]
  congr 1
  by_cases h : k ≤ ds.length
  · rw [Nat.min_eq_left h, List.take_of_length_le (by rw [List.length_drop]; omega)]
  · rw [Nat.min_eq_right (by omega), List.drop_of_length_le (Nat.le_refl _), List.drop_of_length_le (by omega)]
    simp
theorem e_addL {a b : List D} (h : a.length + b.length ≤ 100000) (S : Sto) : addL (.lst a) (.lst b) S = some (a ++ b) := if_pos h
end Sm
/-! P16 -/
namespace Sm
open PySem PySem.Spec L2
@[simp] theorem e_o2N (f : D → D → Sto → Option (List D)) (a b : M D) (S : Sto) : o2N f a b S = match a S with
  | .ok x S1 => (match b S1 with
    | .ok y S2 => (match f x y S2 with
      | some d => .ok d S2
      | none => .stuck)
    | .err k fs S' => .err k fs S'
    | .stuck => .stuck)
  | .err k fs S' => .err k fs S'
  | .stuck => .stuck := by
  unfold o2N bd op2N
  cases a S with
  | ok x S1 =>
    dsimp only
    cases b S1 with
    | ok y S2 =>
      dsimp only <;> (cases f x y S2 <;> rfl)
    | err k fs S' => rfl
    | stuck => rfl
  | err k fs S' => rfl
  | stuck => rfl
end Sm
/-! P19 -/
namespace Sm
open PySem PySem.Spec L2
/-- a comprehension without effects -/
theorem lc_pure {bnd : D → Option Env} {t : Env → M Bool} {e : Env → M D} {f : D → Option D} {S : Sto} : ∀ (ds : List D), (∀ d ∈ ds, ∃ ρ, bnd d = some ρ ∧ ((f d = none ∧ t ρ S = .ok false S) ∨ ∃ y, f d = some y ∧ t ρ S = .ok true S ∧ e ρ S = .ok y S)) →
    lcM bnd t e ds S = .ok (ds.filterMap f) S
  | [], _ => rfl
  | d :: ds, h => by
    obtain ⟨ρ, h1, h2⟩ := h d List.mem_cons_self
    have ih := lc_pure ds fun d hd => h d (List.mem_cons_of_mem _ hd)
    unfold lcM
    rw [h1]
    rcases h2 with ⟨h2, h3⟩ | ⟨y, h2, h3, h4⟩
    · rw [List.filterMap_cons_none h2]
      simp [h3, ih]
    · rw [List.filterMap_cons_some h2]
      simp [h3, h4, ih]
theorem e_atN {α : Type} {xs : List α} {i : Nat} (h : i < xs.length) : L2.atI xs (i : Int) = some xs[i] := L2.atI_nat (List.getElem?_eq_getElem h)
theorem e_atS {α : Type} {xs : List α} {i : Nat} {v : α} (h : xs[i]? = some v) : L2.atI xs (i : Int) = some v := L2.atI_nat h
@[simp] theorem e_isNb (b : Bool) (S : Sto) (c : Bool) : isN c (.bl b) S = some (.bl c) := rfl
@[simp] theorem e_isNl (ds : List D) (S : Sto) (c : Bool) : isN c (.lst ds) S = some (.bl c) := rfl
@[simp] theorem e_eqNS (a : Str) (S : Sto) : eqD .non (.str a) S = some (.bl false) := by
  unfold eqD
  simp [D.py, PyData.eqv, PyData.depth]
theorem ints_py : ∀ is : List Nat, ∃ ps, D.pys (is.map fun i : Nat => D.int (i : Int)) = some ps ∧ PyData.depthAll ps ≤ 1 ∧ (ps = [] ↔ is = [])
  | [] => ⟨[], by simp [D.pys], by simp [PyData.depthAll], by simp⟩
  | i :: is => by
    obtain ⟨ps, h1, h2, h3⟩ := ints_py is
    refine ⟨.int (i : Int) :: ps, by simp [D.pys, D.py, h1], ?_, by simp⟩
    simp only [PyData.depthAll, PyData.depth]
    omega
theorem ne_nilI (is : List Nat) (S : Sto) : neD (.lst (is.map fun i : Nat => D.int (i : Int))) (.lst []) S = some (.bl (!is.isEmpty)) := by
  obtain ⟨ps, h1, h2, h3⟩ := ints_py is
  unfold neD
  simp only [D.py, h1, D.pys]
  rw [if_pos (by simp only [PyData.depth, PyData.depthAll]; omega)]
  cases ps with
  | nil =>
    rw [h3.mp rfl]
    rfl
  | cons p ps =>
    cases is with
    | nil => exact absurd (h3.mpr rfl) (by simp)
    | cons i is => rfl
theorem e_inRng {a b : M D} {S S1 S2 : Sto} {i j : Int} (h : a S = .ok (.int i) S1) (h2 : b S1 = .ok (.int j) S2) : inRngM a b S = .ok (decide (0 ≤ i ∧ i < j)) S2 := by
  unfold inRngM bd
  rw [h]
  dsimp only
  rw [h2]
@[simp] theorem e_asgT2 (i j : Nat) (m : Env → M D) (ρ : Env) (S : Sto) : asgT (.tup [i, j]) m ρ S = match m ρ S with
  | .ok (.tup [a, b]) S' => .ok (.nx ((ρ.set i (.val a)).set j (.val b))) S'
  | .ok d S' => (match bindD (.tup [i, j]) d ρ with
    | some ρ' => .ok (.nx ρ') S'
    | none => .stuck)
  | .err k fs S' => .err k fs S'
  | .stuck => .stuck := by
  unfold asgT bd
  cases m ρ S with
  | ok d S' =>
    dsimp only
    split
    · rename_i a b S2 heq
      cases heq
      rfl
    · rename_i heq
      cases heq
      cases bindD (.tup [i, j]) d ρ <;> rfl
    · rename_i heq; cases heq
    · rename_i heq; cases heq
  | err k fs S' => rfl
  | stuck => rfl
end Sm
/-! P21 -/
namespace Sm
open PySem PySem.Spec L2
@[simp] theorem e_at3 {α : Type} (a b c d : α) (r : List α) : L2.atI (a :: b :: c :: d :: r) 3 = some d := by
  have := L2.atI_nat (xs := a :: b :: c :: d :: r) (j := 3) (v := d) rfl
  simpa using this
@[simp] theorem e_kidx (ys : List Str) (m : M D) (S : Sto) : kidxM ys m S = match m S with
  | .ok (.str z) S' => (match idxS ys z with
    | some j => .ok (.int (j : Nat)) S'
    | none => .stuck)
  | .ok _ _ => .stuck
  | .err k fs S' => .err k fs S'
  | .stuck => .stuck := by
  unfold kidxM bd
  cases m S with
  | ok d S' => cases d <;> rfl
  | err k fs S' => rfl
  | stuck => rfl
theorem strs_py : ∀ is : List Str, ∃ ps, D.pys (is.map D.str) = some ps ∧ PyData.depthAll ps ≤ 1 ∧ ∀ z : Str, idxE ps (.str z) = idxS is z
  | [] => ⟨[], by simp [D.pys], by simp [PyData.depthAll], fun z => by simp [idxE, idxS]⟩
  | i :: is => by
    obtain ⟨ps, h1, h2, h3⟩ := strs_py is
    refine ⟨.str i :: ps, by simp [D.pys, D.py, h1], ?_, fun z => ?_⟩
    · simp only [PyData.depthAll, PyData.depth]
      omega
    · unfold idxE idxS
      rw [h3]
      simp [PyData.eqv, beqS]
theorem idx_strs (is : List Str) (z : Str) : idxD (.lst (is.map D.str)) (.str z) = (idxS is z).map fun (j : Nat) => D.int (j : Int) := by
  obtain ⟨ps, h1, h2, h3⟩ := strs_py is
  unfold idxD
  simp only [D.py, h1, h3]
  rw [if_pos (by simp only [PyData.depth]; omega)]
@[simp] theorem e_asgT3 (i j k : Nat) (m : Env → M D) (ρ : Env) (S : Sto) : asgT (.tup [i, j, k]) m ρ S = match m ρ S with
  | .ok (.tup [a, b, c]) S' => .ok (.nx (((ρ.set i (.val a)).set j (.val b)).set k (.val c))) S'
  | .ok d S' => (match bindD (.tup [i, j, k]) d ρ with
    | some ρ' => .ok (.nx ρ') S'
    | none => .stuck)
  | .err k fs S' => .err k fs S'
  | .stuck => .stuck := by
  unfold asgT bd
  cases m ρ S with
  | ok d S' =>
    dsimp only
    split
    · rename_i a b c S2 heq
      cases heq
      rfl
    · rename_i heq
      cases heq
      cases bindD (.tup [i, j, k]) d ρ <;> rfl
    · rename_i heq; cases heq
    · rename_i heq; cases heq
  | err k fs S' => rfl
  | stuck => rfl
end Sm
/-! P22 -/
namespace Sm
open PySem PySem.Spec L2
@[simp] theorem e_insS (i : Nat) (m : Env → M (List D)) (ρ : Env) (S : Sto) : insS i m ρ S = match ρ[i]? with
  | some (.own ds) => (match m ρ S with
    | .ok [.int k, d] S' => if ds.length < 100000 ∧ 0 ≤ k ∧ k < 100000 then .ok (.nx (ρ.set i (.own (ds.take k.toNat ++ [d] ++ ds.drop k.toNat)))) S' else .stuck
    | .ok _ _ => .stuck
    | .err k fs S' => .err k fs S'
    | .stuck => .stuck)
  | _ => .stuck := by
  unfold insS
  rw [e_bd]
  unfold ownAt
  cases ρ[i]? with
  | none => rfl
  | some s =>
    cases s with
    | own ds =>
      dsimp only
      unfold bd
      cases m ρ S with
      | ok as S' =>
        dsimp only
        split
        · rename_i k d
          rfl
        · rename_i h
          split
          · rename_i k d S2 heq
            injection heq with h1 h2
            exact absurd h1 (h _ _)
          · rename_i heq; rfl
          · rename_i heq; cases heq
          · rename_i heq; cases heq
      | err k fs S' => rfl
      | stuck => rfl
    | _ => rfl
@[simp] theorem e_popM (ρ : Env) (i : Nat) (m : M D) (S : Sto) : popM ρ i m S = match ρ[i]? with
  | some (.own ds) => (match m S with
    | .ok (.int k) S' => if 0 ≤ k ∧ k < 100000 then (match ds[k.toNat]? with
      | some d => .ok (d, ρ.set i (.own (ds.eraseIdx k.toNat))) S'
      | none => .stuck) else .stuck
    | .ok _ _ => .stuck
    | .err k fs S' => .err k fs S'
    | .stuck => .stuck)
  | _ => .stuck := by
  unfold popM
  rw [e_bd]
  unfold ownAt
  cases ρ[i]? with
  | none => rfl
  | some s =>
    cases s with
    | own ds =>
      dsimp only
      unfold bd
      cases m S with
      | ok a S' =>
        dsimp only
        cases a with
        | int k =>
          dsimp only <;> split <;> first | rfl | (cases ds[k.toNat]? <;> rfl)
        | _ => rfl
      | err k fs S' => rfl
      | stuck => rfl
    | _ => rfl
end Sm
/-! P23 -/
namespace Sm
open PySem PySem.Spec L2
theorem e_forC (t : Tg) (b : Env → M Out) (d : D) (ds : List D) (ρ : Env) (S : Sto) : Sm.forM t b (d :: ds) ρ S = match bindD t d ρ with
    | none => .stuck
    | some ρ' => match b ρ' S with
      | .ok (.nx ρ2) S' => Sm.forM t b ds ρ2 S'
      | .ok (.ct ρ2) S' => Sm.forM t b ds ρ2 S'
      | .ok (.bk ρ2) S' => .ok (.nx ρ2) S'
      | .ok (.ret d) S' => .ok (.ret d) S'
      | .err k fs S' => .err k fs S'
      | .stuck => .stuck := by
  rw [Sm.forM]
  cases bindD t d ρ with
  | none => rfl
  | some ρ' =>
    dsimp only
    unfold bd
    cases b ρ' S with
    | ok o S' => cases o <;> rfl
    | err k fs S' => rfl
    | stuck => rfl
@[simp] theorem e_forN (t : Tg) (b : Env → M Out) (ρ : Env) (S : Sto) : Sm.forM t b [] ρ S = .ok (.nx ρ) S := rfl
@[simp] theorem e_appS' (i : Nat) (m : Env → M D) (ρ : Env) (S : Sto) : appS i m ρ S = match ρ[i]? with
  | some (.own ds) => (match m ρ S with
    | .ok d S' => if ds.length < 100000 then .ok (.nx (ρ.set i (.own (ds ++ [d])))) S' else .stuck
    | .err k fs S' => .err k fs S'
    | .stuck => .stuck)
  | _ => .stuck := by
  unfold appS
  rw [e_bd]
  unfold ownAt
  cases ρ[i]? with
  | none => rfl
  | some s =>
    cases s with
    | own ds =>
      dsimp only
      unfold bd
      cases m ρ S <;> rfl
    | _ => rfl
@[simp] theorem e_parS3 (i j k : Nat) (m : Env → M (List Slot)) (ρ : Env) (S : Sto) : parS [i, j, k] 3 m ρ S = match m ρ S with
  | .ok [a, b, c] S' => .ok (.nx (((ρ.set i a).set j b).set k c)) S'
  | .ok _ _ => .stuck
  | .err k fs S' => .err k fs S'
  | .stuck => .stuck := by
  unfold parS bd
  cases m ρ S with
  | ok ss S' =>
    match ss with
    | [] => rfl
    | [_] => rfl
    | [_, _] => rfl
    | [_, _, _] => rfl
    | _ :: _ :: _ :: _ :: r => simp
  | err k fs S' => rfl
  | stuck => rfl
end Sm
/-! P26 -/
namespace Sm
open PySem PySem.Spec L2
theorem rng_succ (lo : Int) (n : Nat) : rng lo (n + 1) = .int lo :: rng (lo + 1) n := by
  unfold rng
  rw [List.range_succ_eq_map, List.map_cons, List.map_map]
  congr 1
  · simp
  · apply List.map_congr_left
    intro i _
    show D.int (lo + ((i + 1 : Nat) : Int)) = D.int (lo + 1 + (i : Int))
    congr 1
    omega
@[simp] theorem e_eqIS (i : Int) (s : Str) (S : Sto) : eqD (.int i) (.str s) S = some (.bl false) := by
  unfold eqD
  simp [D.py, PyData.eqv, PyData.depth]
@[simp] theorem e_eqLS (i : Int) (s : Str) (S : Sto) : eqD (.lst [.int i]) (.str s) S = some (.bl false) := by
  unfold eqD
  simp [D.py, D.pys, PyData.eqv, PyData.depth, PyData.depthAll]
end Sm
/-! P29 -/
namespace Sm
open PySem PySem.Spec L2
@[simp] theorem e_max2 (i j : Int) (S : Sto) : max2D [.int i, .int j] S = some (.int (if j > i then j else i)) := rfl
@[simp] theorem e_min2 (i j : Int) (S : Sto) : min2D [.int i, .int j] S = some (.int (if j < i then j else i)) := rfl
theorem e_range3 {m : M (List D)} {S S' : Sto} {i j k : Int} (h : m S = .ok [.int i, .int j, .int k] S') (hc : rgCB i j k (Builtin.Range.rangeSize i j k).toNat = true) : range3M m S = .ok (rngC i k (Builtin.Range.rangeSize i j k).toNat) S' := by
  unfold range3M bd
  rw [h]
  exact if_pos hc
theorem cut_scr (ds : List D) (k : Nat) (S : Sto) : sliceL (.scr ds) none (some (k : Int)) S = .ok (ds.take k) S := by
  have := cut_to ds k S
  exact this
theorem rng0 (n : Nat) : rng 0 n = (List.range n).map fun i : Nat => D.int (i : Int) := by
  unfold rng
  apply List.map_congr_left
  intro i _
  simp
/-- a comprehension without effects over a mapped list -/
theorem lc_mapF {α : Type} {bnd : D → Option Env} {t : Env → M Bool} {e : Env → M D} {f g : α → D} {p : α → Bool} {S : Sto} : ∀ (xs : List α), (∀ x ∈ xs, ∃ ρ, bnd (f x) = some ρ ∧ t ρ S = .ok (p x) S ∧ (p x = true → e ρ S = .ok (g x) S)) →
    lcM bnd t e (xs.map f) S = .ok ((xs.filter p).map g) S
  | [], _ => rfl
  | x :: xs, h => by
    obtain ⟨ρ, h1, h2, h3⟩ := h x List.mem_cons_self
    have ih := lc_mapF xs fun y hy => h y (List.mem_cons_of_mem _ hy)
    rw [List.map_cons]
    unfold lcM
    rw [h1]
    cases hp : p x with
    | true =>
      rw [hp] at h2
      rw [List.filter_cons_of_pos hp]
      simp [h2, h3 hp, ih]
    | false =>
      rw [hp] at h2
      rw [List.filter_cons_of_neg (by simp [hp])]
      simp [h2, ih]
theorem lc_map {α : Type} {bnd : D → Option Env} {e : Env → M D} {f g : α → D} {S : Sto} (xs : List α) (h : ∀ x ∈ xs, ∃ ρ, bnd (f x) = some ρ ∧ e ρ S = .ok (g x) S) :
    lcM bnd (fun _ => rt true) e (xs.map f) S = .ok (xs.map g) S := by
  have := lc_mapF (bnd := bnd) (t := fun _ => rt true) (e := e) (f := f) (g := g) (p := fun _ => true) (S := S) xs fun x hx => by
    obtain ⟨ρ, h1, h2⟩ := h x hx
    exact ⟨ρ, h1, rfl, fun _ => h2⟩
  rw [List.filter_eq_self.mpr (fun _ _ => rfl)] at this
  exact this
end Sm

/-! text: Wk -/
set_option Elab.async false
set_option linter.all false
set_option maxRecDepth 100000
set_option maxHeartbeats 0
namespace Wk
open PySem PySem.Spec PyProof.Rows L2 Sm
/-- the text by places -/
def top (i : Nat) : Stmt := PySem.Challenge.pw_seeabove_k35_whole_over.main.body.getD i (.Pass ⟨0, 0, 0, 0⟩)
abbrev LETTERS_L : List Str := ["a", "b", "c", "d"]
def PLAIN_D : D := .tup [.non, .tup []]
def b__law_cell_at : Sm.Env → M Out :=
  (seqS (fun ρ => bd (boolT (o2 ltI (vb ρ 1) (c1 lenD (consM (vb ρ 0) (rt []))))) fun t => iteM t ((fun ρ => bd (o2 ixD (vb ρ 0) (vb ρ 1)) fun d => rt (.ret d)) ρ) (nextS ρ))
  (fun ρ => bd (rt (.int 0)) fun d => rt (.ret d)))
def m__law_cell_at : List D → M D := fnM 2 b__law_cell_at
def b__law_draw : Sm.Env → M Out :=
  (seqS (setV 3 fun ρ => (tupM (consM (rt (.int 1000003)) (consM (rt (.int 1000033)) (consM (rt (.int 1000037)) (consM (rt (.int 1000039)) (consM (rt (.int 1000081)) (consM (rt (.int 1000099)) (consM (rt (.int 1000117)) (consM (rt (.int 1000121)) (consM (rt (.int 1000133)) (consM (rt (.int 1000151)) (consM (rt (.int 1000159)) (consM (rt (.int 1000171)) (consM (rt (.int 1000183)) (consM (rt (.int 1000187)) (consM (rt (.int 1000193)) (consM (rt (.int 1000199)) (rt [])))))))))))))))))))
  (fun ρ => bd (o2 modI (c1 intD (consM (o2 modI (c1 intD (consM (o2 addA (o2 mulA (vb ρ 0) (rt (.int 48271))) (o2 mulA (vb ρ 1) (rt (.int 69621)))) (rt []))) (o2 ixD (vb ρ 3) (o2 modI (c1 intD (consM (vb ρ 1) (rt []))) (rt (.int 16))))) (rt []))) (vb ρ 2)) fun d => rt (.ret d)))
def m__law_draw : List D → M D := fnM 4 b__law_draw
def b__law_number : Sm.Env → M Out :=
  (seqS (setV 3 fun ρ => (rt (.int 1)))
  (seqS (fun ρ => bd (range1M (consM (o2 modI (c1 intD (consM (vb ρ 1) (rt []))) (rt (.int 24))) (rt []))) fun ds => forM (.one 4) (setV 3 fun ρ => (o2 mulA (vb ρ 3) (rt (.int 1009)))) ds ρ)
  (seqS (setV 5 fun ρ => (o2 divI (o2 subI (vb ρ 0) (o2 powI (rt (.int 10)) (rt (.int 18)))) (vb ρ 3)))
  (seqS (fun ρ => bd (boolT (o2 gtI (vb ρ 5) (rt (.int 0)))) fun t => iteM t ((fun ρ => bd (o2 modI (c1 intD (consM (o2 modI (c1 intD (consM (vb ρ 5) (rt []))) (rt (.int 1009))) (rt []))) (vb ρ 2)) fun d => rt (.ret d)) ρ) (nextS ρ))
  (seqS (setV 6 fun ρ => (o2 modI (c1 intD (consM (vb ρ 0) (rt []))) (rt (.int 1000003))))
  (fun ρ => bd (o2 modI (c1 intD (consM (bd (consM (o2 mulA (o2 addA (vb ρ 6) (o2 mulA (rt (.int 977)) (vb ρ 1))) (o2 addA (o2 addA (vb ρ 6) (o2 mulA (rt (.int 31)) (vb ρ 1))) (rt (.int 5)))) (consM (o2 addA (o2 modI (c1 intD (consM (vb ρ 1) (rt []))) (rt (.int 9))) (rt (.int 1))) (consM (rt (.int 999983)) (rt [])))) fun ds => callM 3 m__law_draw ds) (rt []))) (vb ρ 2)) fun d => rt (.ret d)))))))
def m__law_number : List D → M D := fnM 7 b__law_number
def b__law_next : Sm.Env → M Out :=
  (seqS (setIx 0 (fun ρ => (o2 addA (o2 ixD (vb ρ 0) (rt (.int 2))) (rt (.int 1)))) (fun ρ => (rt (.int 2))))
  (seqS (setV 2 fun ρ => (o2 divI (o2 ixD (vb ρ 0) (rt (.int 2))) (rt (.int 12))))
  (seqS (setV 3 fun ρ => (o2 addA (bd (consM (o2 ixD (vb ρ 0) (rt (.int 0))) (consM (o2 addA (o2 ixD (vb ρ 0) (rt (.int 1))) (vb ρ 2)) (rt []))) fun ds => callM 2 m__law_cell_at ds) (o2 mulA (rt (.int 31)) (vb ρ 2))))
  (fun ρ => bd (bd (consM (vl ρ 3) (consM (o2 addA (o2 modI (c1 intD (consM (o2 ixD (vb ρ 0) (rt (.int 2))) (rt []))) (rt (.int 12))) (rt (.int 1))) (consM (vl ρ 1) (rt [])))) fun ds => callM 3 m__law_number ds) fun d => rt (.ret d)))))
def m__law_next : List D → M D := fnM 4 b__law_next
def b__law_edits : Sm.Env → M Out :=
  (seqS (setN 1 fun ρ => (lstM (rt [])))
  (seqS (fun ρ => bd (range1M (consM (vl ρ 0) (rt []))) fun ds => forM (.one 2) (setN 1 fun ρ => (o2N addL (vb ρ 1) (bd (bd (range1M (consM (o2 addA (vb ρ 0) (rt (.int 1))) (rt []))) fun ds => noX (lcM (fun d => bindD (.one 3) d (wipeE ρ [3])) (fun ρ => (rt true)) (fun ρ => (tupM (consM (rt (.str "copy")) (consM (vl ρ 2) (consM (vl ρ 3) (rt [])))))) ds)) fun ds => rt (.lst ds)))) ds ρ)
  (seqS (fun ρ => bd (range1M (consM (vl ρ 0) (rt []))) fun ds => forM (.one 2) (setN 1 fun ρ => (o2N addL (vb ρ 1) (bd (bd (range1M (consM (vl ρ 0) (rt []))) fun ds => noX (lcM (fun d => bindD (.one 3) d (wipeE ρ [3])) (fun ρ => (boolT (o2 neD (vb ρ 3) (vb ρ 2)))) (fun ρ => (tupM (consM (rt (.str "move")) (consM (vl ρ 2) (consM (vl ρ 3) (rt [])))))) ds)) fun ds => rt (.lst ds)))) ds ρ)
  (fun ρ => bd (bd (o2N addL (bd (o2N addL (vb ρ 1) (bd (bd (range1M (consM (vl ρ 0) (rt []))) fun ds => noX (lcM (fun d => bindD (.one 2) d (wipeE ρ [2])) (fun ρ => (rt true)) (fun ρ => (tupM (consM (rt (.str "out")) (consM (vl ρ 2) (rt []))))) ds)) fun ds => rt (.lst ds))) fun ds => rt (.lst ds)) (bd (bd (range1M (consM (o2 addA (vb ρ 0) (rt (.int 1))) (rt []))) fun ds => noX (lcM (fun d => bindD (.one 2) d (wipeE ρ [2])) (fun ρ => (rt true)) (fun ρ => (tupM (consM (rt (.str "put")) (consM (vl ρ 2) (rt []))))) ds)) fun ds => rt (.lst ds))) fun ds => rt (.lst ds)) fun d => rt (.ret d)))))
def m__law_edits : List D → M D := fnM 4 b__law_edits
def b__law_can : Sm.Env → M Out :=
  (seqS (setV 2 fun ρ => (c1 lenD (consM (vb ρ 0) (rt []))))
  (seqS (fun ρ => bd (boolT (o2 eqD (o2 ixD (vb ρ 1) (rt (.int 0))) (rt (.str "put")))) fun t => iteM t ((fun ρ => bd (andV (o2 ltI (vb ρ 2) (rt (.int 6))) (chainM leI leI (rt (.int 0)) (o2 ixD (vb ρ 1) (rt (.int 1))) (vb ρ 2))) fun d => rt (.ret d)) ρ) (nextS ρ))
  (seqS (fun ρ => bd (notT (boolT (chainM leI ltI (rt (.int 0)) (o2 ixD (vb ρ 1) (rt (.int 1))) (vb ρ 2)))) fun t => iteM t ((fun ρ => bd (rt (.bl false)) fun d => rt (.ret d)) ρ) (nextS ρ))
  (seqS (fun ρ => bd (boolT (o2 eqD (o2 ixD (vb ρ 1) (rt (.int 0))) (rt (.str "move")))) fun t => iteM t ((fun ρ => bd (andV (chainM leI ltI (rt (.int 0)) (o2 ixD (vb ρ 1) (rt (.int 2))) (vb ρ 2)) (o2 neD (o2 ixD (vb ρ 1) (rt (.int 1))) (o2 ixD (vb ρ 1) (rt (.int 2))))) fun d => rt (.ret d)) ρ) (nextS ρ))
  (fun ρ => bd (orV (o2 eqD (o2 ixD (vb ρ 1) (rt (.int 0))) (rt (.str "out"))) (andV (o2 ltI (vb ρ 2) (rt (.int 6))) (chainM leI leI (rt (.int 0)) (o2 ixD (vb ρ 1) (rt (.int 2))) (vb ρ 2)))) fun d => rt (.ret d))))))
def m__law_can : List D → M D := fnM 3 b__law_can
def b__law_pick : Sm.Env → M Out :=
  (fun ρ => bd (o2 ixD (vb ρ 1) (bd (consM (vl ρ 0) (consM (c1 lenD (consM (vb ρ 1) (rt []))) (rt []))) fun ds => callM 2 m__law_next ds)) fun d => rt (.ret d))
def m__law_pick : List D → M D := fnM 2 b__law_pick
def b__law_many_after : Sm.Env → M Out :=
  (fun ρ => bd (o2 addA (vb ρ 0) (bd (boolT (o2 (inD false) (o2 ixD (vb ρ 1) (rt (.int 0))) (tupM (consM (rt (.str "put")) (consM (rt (.str "copy")) (rt [])))))) fun t => iteM t (rt (.int 1)) (bd (boolT (o2 eqD (o2 ixD (vb ρ 1) (rt (.int 0))) (rt (.str "out")))) fun t => iteM t (negM (rt (.int 1))) (rt (.int 0))))) fun d => rt (.ret d))
def m__law_many_after : List D → M D := fnM 2 b__law_many_after
def b__law_some_edits : Sm.Env → M Out :=
  (seqS (setN 3 fun ρ => (lstM (rt [])))
  (seqS (fun ρ => bd (range1M (consM (bd (consM (vl ρ 0) (consM (o2 addA (vb ρ 2) (rt (.int 1))) (rt []))) fun ds => callM 2 m__law_next ds) (rt []))) fun ds => forM (.one 4) (seqS (setN 5 fun ρ => (bd (bd (bd (consM (vl ρ 1) (rt [])) fun ds => callM 1 m__law_edits ds) seqM) fun ds => noX (lcM (fun d => bindD (.one 6) d (wipeE ρ [6])) (fun ρ => (boolT (bd (consM (o2 mulA (tupM (consM (tupM (consM (rt .non) (consM (tupM (rt [])) (rt [])))) (rt []))) (vb ρ 1)) (consM (vl ρ 6) (rt []))) fun ds => callM 2 m__law_can ds))) (fun ρ => (vl ρ 6)) ds)))
  (seqS (fun ρ => (setV 6 fun ρ => (bd (consM (vl ρ 0) (consM (vl ρ 5) (rt []))) fun ds => callM 2 m__law_pick ds)) (frzS [5] ρ))
  (seqS (appS 3 fun ρ => (vl ρ 6))
  (setV 1 fun ρ => (bd (consM (vl ρ 1) (consM (vl ρ 6) (rt []))) fun ds => callM 2 m__law_many_after ds))))) ds ρ)
  (fun ρ => bd (c1 tupleD (consM (vb ρ 3) (rt []))) fun d => rt (.ret d))))
def m__law_some_edits : List D → M D := fnM 7 b__law_some_edits
def b_is_number : Sm.Env → M Out :=
  (fun ρ => bd (andV (c1 isiD (consM (vb ρ 0) (consM (rt (.ty "int")) (rt [])))) (andV (notV (c1 isiD (consM (vb ρ 0) (consM (rt (.ty "bool")) (rt []))))) (chainM leI leI (vb ρ 1) (vb ρ 0) (vb ρ 2)))) fun d => rt (.ret d))
def m_is_number : List D → M D := fnM 3 b_is_number
def b_is_label : Sm.Env → M Out :=
  (fun ρ => bd (andV (c1 isiD (consM (vb ρ 0) (consM (rt (.ty "str")) (rt [])))) (o2 (inD false) (vb ρ 0) (rt (.tup (LETTERS_L.map D.str))))) fun d => rt (.ret d))
def m_is_label : List D → M D := fnM 1 b_is_label
def b_is_pointer : Sm.Env → M Out :=
  (seqS (fun ρ => bd (orT (notT (boolT (c1 isiD (consM (vb ρ 0) (consM (rt (.ty "tuple")) (rt [])))))) (orT (boolT (o2 neD (c1 lenD (consM (vb ρ 0) (rt []))) (rt (.int 2)))) (notT (boolT (c1 isiD (consM (o2 ixD (vb ρ 0) (rt (.int 0))) (consM (rt (.ty "str")) (rt [])))))))) fun t => iteM t ((fun ρ => bd (rt (.bl false)) fun d => rt (.ret d)) ρ) (nextS ρ))
  (seqS (fun ρ => bd (boolT (o2 eqD (o2 ixD (vb ρ 0) (rt (.int 0))) (rt (.str "label")))) fun t => iteM t ((fun ρ => bd (bd (consM (o2 ixD (vb ρ 0) (rt (.int 1))) (rt [])) fun ds => callM 1 m_is_label ds) fun d => rt (.ret d)) ρ) (nextS ρ))
  (seqS (fun ρ => bd (boolT (o2 (inD false) (o2 ixD (vb ρ 0) (rt (.int 0))) (tupM (consM (rt (.str "above")) (consM (rt (.str "below")) (rt [])))))) fun t => iteM t ((fun ρ => bd (bd (consM (o2 ixD (vb ρ 0) (rt (.int 1))) (consM (rt (.int 1)) (consM (rt (.int 9)) (rt [])))) fun ds => callM 3 m_is_number ds) fun d => rt (.ret d)) ρ) (nextS ρ))
  (fun ρ => bd (andV (o2 (inD false) (o2 ixD (vb ρ 0) (rt (.int 0))) (tupM (consM (rt (.str "number")) (consM (rt (.str "end")) (rt []))))) (bd (consM (o2 ixD (vb ρ 0) (rt (.int 1))) (consM (rt (.int 0)) (consM (rt (.int 9)) (rt [])))) fun ds => callM 3 m_is_number ds)) fun d => rt (.ret d)))))
def m_is_pointer : List D → M D := fnM 1 b_is_pointer
def b_is_step : Sm.Env → M Out :=
  (seqS (fun ρ => bd (orT (notT (boolT (c1 isiD (consM (vb ρ 0) (consM (rt (.ty "tuple")) (rt [])))))) (orT (boolT (o2 neD (c1 lenD (consM (vb ρ 0) (rt []))) (rt (.int 2)))) (notT (orT (boolT (bd (o2 ixD (vb ρ 0) (rt (.int 0))) fun x => op1 (isN false) x)) (boolT (bd (consM (o2 ixD (vb ρ 0) (rt (.int 0))) (rt [])) fun ds => callM 1 m_is_label ds)))))) fun t => iteM t ((fun ρ => bd (rt (.bl false)) fun d => rt (.ret d)) ρ) (nextS ρ))
  (seqS (fun ρ => bd (orT (notT (boolT (c1 isiD (consM (o2 ixD (vb ρ 0) (rt (.int 1))) (consM (rt (.ty "tuple")) (rt [])))))) (boolT (o2 gtI (c1 lenD (consM (o2 ixD (vb ρ 0) (rt (.int 1))) (rt []))) (rt (.int 2))))) fun t => iteM t ((fun ρ => bd (rt (.bl false)) fun d => rt (.ret d)) ρ) (nextS ρ))
  (fun ρ => bd (c1 allD (consM (bd (bd (bd (o2 ixD (vb ρ 0) (rt (.int 1))) seqM) fun ds => noX (lcM (fun d => bindD (.one 1) d (wipeE ρ [1])) (fun ρ => (rt true)) (fun ρ => (bd (consM (vl ρ 1) (rt [])) fun ds => callM 1 m_is_pointer ds)) ds)) fun ds => rt (.lst ds)) (rt []))) fun d => rt (.ret d))))
def m_is_step : List D → M D := fnM 2 b_is_step
def b_are_rows : Sm.Env → M Out :=
  (fun ρ => bd (andV (c1 isiD (consM (vb ρ 0) (consM (rt (.ty "tuple")) (rt [])))) (andV (o2 leI (c1 lenD (consM (vb ρ 0) (rt []))) (rt (.int 6))) (c1 allD (consM (bd (bd (bd (vl ρ 0) seqM) fun ds => noX (lcM (fun d => bindD (.one 1) d (wipeE ρ [1])) (fun ρ => (rt true)) (fun ρ => (bd (consM (vl ρ 1) (rt [])) fun ds => callM 1 m_is_step ds)) ds)) fun ds => rt (.lst ds)) (rt []))))) fun d => rt (.ret d))
def m_are_rows : List D → M D := fnM 2 b_are_rows
def b_is_edit : Sm.Env → M Out :=
  (seqS (fun ρ => bd (orT (notT (boolT (c1 isiD (consM (vb ρ 1) (consM (rt (.ty "tuple")) (rt [])))))) (orT (boolT (o2 ltI (c1 lenD (consM (vb ρ 1) (rt []))) (rt (.int 2)))) (notT (boolT (c1 isiD (consM (o2 ixD (vb ρ 1) (rt (.int 0))) (consM (rt (.ty "str")) (rt [])))))))) fun t => iteM t ((fun ρ => bd (rt (.bl false)) fun d => rt (.ret d)) ρ) (nextS ρ))
  (seqS (parS [2, 3] 2 fun ρ => (bd (c1 lenD (consM (vb ρ 0) (rt []))) fun d => bd (bd (bd (vb ρ 1) fun x => bd (bd (rt (.int 1)) asI) fun i => bd (rt none) fun j => sliceT x i j) fun d => bd (rt []) fun ss => rt (.val d :: ss)) fun ss => rt (.val d :: ss)))
  (seqS (fun ρ => bd (boolT (o2 eqD (o2 ixD (vb ρ 1) (rt (.int 0))) (rt (.str "join")))) fun t => iteM t ((fun ρ => bd (andV (o2 eqD (c1 lenD (consM (vb ρ 1) (rt []))) (rt (.int 2))) (andV (bd (consM (o2 ixD (vb ρ 1) (rt (.int 1))) (rt [])) fun ds => callM 1 m_are_rows ds) (o2 leI (o2 addA (vb ρ 2) (c1 lenD (consM (o2 ixD (vb ρ 1) (rt (.int 1))) (rt [])))) (rt (.int 6))))) fun d => rt (.ret d)) ρ) (nextS ρ))
  (seqS (fun ρ => bd (boolT (o2 eqD (o2 ixD (vb ρ 1) (rt (.int 0))) (rt (.str "put")))) fun t => iteM t ((fun ρ => bd (andV (o2 eqD (c1 lenD (consM (vb ρ 1) (rt []))) (rt (.int 2))) (andV (o2 ltI (vb ρ 2) (rt (.int 6))) (bd (consM (o2 ixD (vb ρ 1) (rt (.int 1))) (consM (rt (.int 0)) (consM (vl ρ 2) (rt [])))) fun ds => callM 3 m_is_number ds))) fun d => rt (.ret d)) ρ) (nextS ρ))
  (seqS (fun ρ => bd (boolT (o2 eqD (o2 ixD (vb ρ 1) (rt (.int 0))) (rt (.str "out")))) fun t => iteM t ((fun ρ => bd (andV (o2 eqD (c1 lenD (consM (vb ρ 1) (rt []))) (rt (.int 2))) (bd (consM (o2 ixD (vb ρ 1) (rt (.int 1))) (consM (rt (.int 0)) (consM (o2 subI (vb ρ 2) (rt (.int 1))) (rt [])))) fun ds => callM 3 m_is_number ds)) fun d => rt (.ret d)) ρ) (nextS ρ))
  (seqS (fun ρ => bd (orT (boolT (o2 neD (c1 lenD (consM (vb ρ 1) (rt []))) (rt (.int 3)))) (notT (boolT (bd (consM (o2 ixD (vb ρ 1) (rt (.int 1))) (consM (rt (.int 0)) (consM (o2 subI (vb ρ 2) (rt (.int 1))) (rt [])))) fun ds => callM 3 m_is_number ds)))) fun t => iteM t ((fun ρ => bd (rt (.bl false)) fun d => rt (.ret d)) ρ) (nextS ρ))
  (seqS (fun ρ => bd (boolT (o2 eqD (o2 ixD (vb ρ 1) (rt (.int 0))) (rt (.str "move")))) fun t => iteM t ((fun ρ => bd (andV (bd (consM (o2 ixD (vb ρ 1) (rt (.int 2))) (consM (rt (.int 0)) (consM (o2 subI (vb ρ 2) (rt (.int 1))) (rt [])))) fun ds => callM 3 m_is_number ds) (o2 neD (o2 ixD (vb ρ 1) (rt (.int 1))) (o2 ixD (vb ρ 1) (rt (.int 2))))) fun d => rt (.ret d)) ρ) (nextS ρ))
  (fun ρ => bd (andV (o2 eqD (o2 ixD (vb ρ 1) (rt (.int 0))) (rt (.str "copy"))) (andV (o2 ltI (vb ρ 2) (rt (.int 6))) (bd (consM (o2 ixD (vb ρ 3) (rt (.int 1))) (consM (rt (.int 0)) (consM (vl ρ 2) (rt [])))) fun ds => callM 3 m_is_number ds))) fun d => rt (.ret d)))))))))
def m_is_edit : List D → M D := fnM 4 b_is_edit
def b_many_after : Sm.Env → M Out :=
  (seqS (fun ρ => bd (orT (notT (boolT (bd (consM (o2 mulA (tupM (consM (rt PLAIN_D) (rt []))) (vb ρ 0)) (consM (vl ρ 1) (rt []))) fun ds => callM 2 m_is_edit ds))) (boolT (o2 eqD (o2 ixD (vb ρ 1) (rt (.int 0))) (rt (.str "join"))))) fun t => iteM t ((fun ρ => bd (rt .non) fun d => rt (.ret d)) ρ) (nextS ρ))
  (seqS (fun ρ => bd (boolT (o2 (inD false) (o2 ixD (vb ρ 1) (rt (.int 0))) (tupM (consM (rt (.str "put")) (consM (rt (.str "copy")) (rt [])))))) fun t => iteM t ((fun ρ => bd (o2 addA (vb ρ 0) (rt (.int 1))) fun d => rt (.ret d)) ρ) (nextS ρ))
  (fun ρ => bd (bd (boolT (o2 eqD (o2 ixD (vb ρ 1) (rt (.int 0))) (rt (.str "out")))) fun t => iteM t (o2 subI (vb ρ 0) (rt (.int 1))) (vl ρ 0)) fun d => rt (.ret d))))
def m_many_after : List D → M D := fnM 2 b_many_after
def b_counts_along : Sm.Env → M Out :=
  (seqS (setN 2 fun ρ => (lstM (consM (vl ρ 0) (rt []))))
  (seqS (fun ρ => bd (bd (vl ρ 1) fun d => bd (seqM d) fun ds => rt (enumL 0 ds)) fun ds => forM (.tup [3, 4]) (seqS (setV 5 fun ρ => (bd (consM (o2 ixD (vb ρ 2) (negM (rt (.int 1)))) (consM (vl ρ 4) (rt []))) fun ds => callM 2 m_many_after ds))
  (seqS (fun ρ => bd (boolT (bd (vb ρ 5) fun x => op1 (isN false) x)) fun t => iteM t ((raiseF 2 "index" fun ρ => (consM (vl ρ 3) (rt []))) ρ) (nextS ρ))
  (appS 2 fun ρ => (vl ρ 5)))) ds ρ)
  (fun ρ => (fun ρ => bd (vl ρ 2) fun d => rt (.ret d)) (frzS [2] ρ))))
def m_counts_along : List D → M D := fnM 6 b_counts_along
def b_Edits_init : Sm.Env → M Out :=
  (seqS (fun ρ => bd (orT (notT (boolT (bd (consM (vl ρ 1) (consM (rt (.int 0)) (consM (rt (.int 6)) (rt [])))) fun ds => callM 3 m_is_number ds))) (notT (boolT (c1 isiD (consM (vb ρ 2) (consM (rt (.ty "tuple")) (rt []))))))) fun t => iteM t ((raiseF 2 "index" fun ρ => (consM (rt .non) (rt []))) ρ) (nextS ρ))
  (seqS (fun ρ => bd (bd (consM (vl ρ 1) (consM (vl ρ 2) (rt []))) fun ds => callM 2 m_counts_along ds) fun v => selfM 0 0 ρ v)
  (seqS (fun ρ => bd (vl ρ 1) fun v => selfM 0 2 ρ v)
  (fun ρ => bd (vl ρ 2) fun v => selfM 0 1 ρ v))))
def m_Edits_init : List D → M D := initM 3 3 0 b_Edits_init
def b_Edits_many : Sm.Env → M Out :=
  (fun ρ => bd (bd (vl ρ 0) (slotM 0 2)) fun d => rt (.ret d))
def m_Edits_many : List D → M D := fnM 1 b_Edits_many
def m_gap_over : Nat → List D → M D
  | 0 => fun _ => stk
  | fu + 1 => fnM 4 (seqS (fun ρ => bd (boolT (o2 eqD (o2 ixD (vb ρ 0) (rt (.int 0))) (rt (.str "move")))) fun t => iteM t ((fun ρ => bd (bd (consM (tupM (consM (rt (.str "put")) (consM (o2 ixD (vb ρ 0) (rt (.int 2))) (rt [])))) (consM (bd (consM (tupM (consM (rt (.str "out")) (consM (o2 ixD (vb ρ 0) (rt (.int 1))) (rt [])))) (consM (vl ρ 1) (consM (vl ρ 2) (rt [])))) fun ds => callM 3 (m_gap_over fu) ds) (consM (vl ρ 2) (rt [])))) fun ds => callM 3 (m_gap_over fu) ds) fun d => rt (.ret d)) ρ) (nextS ρ))
  (seqS (setV 3 fun ρ => (o2 ixD (vb ρ 0) (negM (rt (.int 1)))))
  (seqS (fun ρ => bd (boolT (o2 eqD (o2 ixD (vb ρ 0) (rt (.int 0))) (rt (.str "out")))) fun t => iteM t ((fun ρ => bd (bd (boolT (o2 gtI (vb ρ 1) (vb ρ 3))) fun t => iteM t (o2 subI (vb ρ 1) (rt (.int 1))) (vl ρ 1)) fun d => rt (.ret d)) ρ) (nextS ρ))
  (fun ρ => bd (bd (orT (boolT (o2 gtI (vb ρ 1) (vb ρ 3))) (andT (boolT (o2 eqD (vb ρ 1) (vb ρ 3))) (boolT (vl ρ 2)))) fun t => iteM t (o2 addA (vb ρ 1) (rt (.int 1))) (vl ρ 1)) fun d => rt (.ret d)))))
def b_step_over : Sm.Env → M Out :=
  (seqS (setV 2 fun ρ => (o2 ixD (vb ρ 0) (negM (rt (.int 1)))))
  (seqS (fun ρ => bd (boolT (o2 eqD (o2 ixD (vb ρ 0) (rt (.int 0))) (rt (.str "out")))) fun t => iteM t ((seqS (fun ρ => bd (boolT (o2 eqD (vb ρ 1) (vb ρ 2))) fun t => iteM t ((fun ρ => bd (rt .non) fun d => rt (.ret d)) ρ) (nextS ρ))
  (fun ρ => bd (bd (boolT (o2 gtI (vb ρ 1) (vb ρ 2))) fun t => iteM t (o2 subI (vb ρ 1) (rt (.int 1))) (vl ρ 1)) fun d => rt (.ret d))) ρ) (nextS ρ))
  (seqS (fun ρ => bd (boolT (o2 eqD (o2 ixD (vb ρ 0) (rt (.int 0))) (rt (.str "move")))) fun t => iteM t ((seqS (fun ρ => bd (boolT (o2 eqD (vb ρ 1) (o2 ixD (vb ρ 0) (rt (.int 1))))) fun t => iteM t ((fun ρ => bd (vl ρ 2) fun d => rt (.ret d)) ρ) (nextS ρ))
  (setV 1 fun ρ => (bd (boolT (o2 gtI (vb ρ 1) (o2 ixD (vb ρ 0) (rt (.int 1))))) fun t => iteM t (o2 subI (vb ρ 1) (rt (.int 1))) (vl ρ 1)))) ρ) (nextS ρ))
  (fun ρ => bd (bd (boolT (o2 geI (vb ρ 1) (vb ρ 2))) fun t => iteM t (o2 addA (vb ρ 1) (rt (.int 1))) (vl ρ 1)) fun d => rt (.ret d)))))
def m_step_over : List D → M D := fnM 3 b_step_over
def b_move_over : Sm.Env → M Out :=
  (seqS (setV 3 fun ρ => (bd (consM (vl ρ 1) (consM (o2 ixD (vb ρ 0) (rt (.int 1))) (rt []))) fun ds => callM 2 m_step_over ds))
  (seqS (fun ρ => bd (boolT (bd (vb ρ 3) fun x => op1 (isN false) x)) fun t => iteM t ((fun ρ => bd (rt .non) fun d => rt (.ret d)) ρ) (nextS ρ))
  (seqS (setV 4 fun ρ => (bd (consM (vl ρ 1) (consM (bd (boolT (o2 ltI (o2 ixD (vb ρ 0) (rt (.int 2))) (o2 ixD (vb ρ 0) (rt (.int 1))))) fun t => iteM t (o2 ixD (vb ρ 0) (rt (.int 2))) (o2 addA (o2 ixD (vb ρ 0) (rt (.int 2))) (rt (.int 1)))) (consM (vl ρ 2) (rt [])))) fun ds => callM 3 (m_gap_over 2) ds))
  (seqS (setV 5 fun ρ => (bd (boolT (o2 leI (vb ρ 4) (vb ρ 3))) fun t => iteM t (vl ρ 4) (o2 subI (vb ρ 4) (rt (.int 1)))))
  (fun ρ => bd (bd (boolT (o2 eqD (vb ρ 5) (vb ρ 3))) fun t => iteM t (rt .non) (tupM (consM (rt (.str "move")) (consM (vl ρ 3) (consM (vl ρ 5) (rt [])))))) fun d => rt (.ret d))))))
def m_move_over : List D → M D := fnM 6 b_move_over
def b_over : Sm.Env → M Out :=
  (seqS (fun ρ => bd (orT (boolT (bd (vb ρ 0) fun x => op1 (isN false) x)) (boolT (bd (vb ρ 1) fun x => op1 (isN false) x))) fun t => iteM t ((fun ρ => bd (vl ρ 0) fun d => rt (.ret d)) ρ) (nextS ρ))
  (seqS (fun ρ => bd (boolT (o2 eqD (o2 ixD (vb ρ 0) (rt (.int 0))) (rt (.str "put")))) fun t => iteM t ((fun ρ => bd (tupM (consM (rt (.str "put")) (consM (bd (consM (vl ρ 1) (consM (o2 ixD (vb ρ 0) (rt (.int 1))) (consM (vl ρ 2) (rt [])))) fun ds => callM 3 (m_gap_over 2) ds) (rt [])))) fun d => rt (.ret d)) ρ) (nextS ρ))
  (seqS (fun ρ => bd (boolT (o2 eqD (o2 ixD (vb ρ 0) (rt (.int 0))) (rt (.str "move")))) fun t => iteM t ((fun ρ => bd (bd (consM (vl ρ 0) (consM (vl ρ 1) (consM (vl ρ 2) (rt [])))) fun ds => callM 3 m_move_over ds) fun d => rt (.ret d)) ρ) (nextS ρ))
  (seqS (setV 3 fun ρ => (bd (consM (vl ρ 1) (consM (o2 ixD (vb ρ 0) (rt (.int 1))) (rt []))) fun ds => callM 2 m_step_over ds))
  (seqS (fun ρ => bd (boolT (bd (vb ρ 3) fun x => op1 (isN false) x)) fun t => iteM t ((fun ρ => bd (rt .non) fun d => rt (.ret d)) ρ) (nextS ρ))
  (fun ρ => bd (bd (boolT (o2 eqD (o2 ixD (vb ρ 0) (rt (.int 0))) (rt (.str "out")))) fun t => iteM t (tupM (consM (rt (.str "out")) (consM (vl ρ 3) (rt [])))) (tupM (consM (rt (.str "copy")) (consM (vl ρ 3) (consM (bd (consM (vl ρ 1) (consM (o2 ixD (vb ρ 0) (rt (.int 2))) (consM (vl ρ 2) (rt [])))) fun ds => callM 3 (m_gap_over 2) ds) (rt [])))))) fun d => rt (.ret d)))))))
def m_over : List D → M D := fnM 4 b_over
def b_carried_row : Sm.Env → M Out :=
  (seqS (parS [3, 4] 2 fun ρ => (bd (lstM (rt [])) fun ds => bd (bd (lstM (appM (bd (vb ρ 1) starM) (rt []))) fun ds => bd (rt []) fun ss => rt (.own ds :: ss)) fun ss => rt (.own ds :: ss)))
  (seqS (fun ρ => bd (bd (vl ρ 0) seqM) fun ds => forM (.one 2) (seqS (setN 5 fun ρ => (lstM (rt [])))
  (seqS (fun ρ => (fun ρ => bd (bd (vl ρ 4) seqM) fun ds => forM (.one 6) (seqS (setN 5 fun ρ => (lstM (appM (bd (vb ρ 5) starM) (consM (bd (consM (vl ρ 6) (consM (vl ρ 2) (consM (rt (.bl false)) (rt [])))) fun ds => callM 3 m_over ds) (rt [])))))
  (setV 2 fun ρ => (bd (consM (vl ρ 2) (consM (vl ρ 6) (consM (rt (.bl true)) (rt [])))) fun ds => callM 3 m_over ds))) ds ρ) (frzS [4] ρ))
  (seqS (fun ρ => (setV 4 fun ρ => (vl ρ 5)) (frzS [5] ρ))
  (setN 3 fun ρ => (lstM (appM (bd (vb ρ 3) starM) (consM (vl ρ 2) (rt [])))))))) ds ρ)
  (fun ρ => bd (tupM (consM (bd (bd (bd (vb ρ 3) ownM) fun ds => noX (lcM (fun d => bindD (.one 2) d (wipeE ρ [2])) (fun ρ => (boolT (bd (vb ρ 2) fun x => op1 (isN true) x))) (fun ρ => (vl ρ 2)) ds)) fun ds => rt (.lst ds)) (consM (bd (bd (bd (vb ρ 4) ownM) fun ds => noX (lcM (fun d => bindD (.one 6) d (wipeE ρ [6])) (fun ρ => (boolT (bd (vb ρ 6) fun x => op1 (isN true) x))) (fun ρ => (vl ρ 6)) ds)) fun ds => rt (.lst ds)) (rt [])))) fun d => rt (.ret d))))
def m_carried_row : List D → M D := fnM 7 b_carried_row
def b_Edits_acts : Sm.Env → M Out :=
  (fun ρ => bd (bd (vl ρ 0) (slotM 0 1)) fun d => rt (.ret d))
def m_Edits_acts : List D → M D := fnM 1 b_Edits_acts
def b_Edits_abs : Sm.Env → M Out :=
  (fun ρ => bd (o2 ixD (bd (vl ρ 0) (slotM 0 0)) (negM (rt (.int 1)))) fun d => rt (.ret d))
def m_Edits_abs : List D → M D := fnM 1 b_Edits_abs
def b_can_do : Sm.Env → M Out :=
  (seqS (fun ρ => bd (bd (vl ρ 1) seqM) fun ds => forM (.one 2) (seqS (setV 0 fun ρ => (bd (consM (vl ρ 0) (consM (vl ρ 2) (rt []))) fun ds => callM 2 m_many_after ds))
  (fun ρ => bd (boolT (bd (vb ρ 0) fun x => op1 (isN false) x)) fun t => iteM t ((fun ρ => bd (rt (.bl false)) fun d => rt (.ret d)) ρ) (nextS ρ))) ds ρ)
  (fun ρ => bd (rt (.bl true)) fun d => rt (.ret d)))
def m_can_do : List D → M D := fnM 3 b_can_do
def b_Edits_mod : Sm.Env → M Out :=
  (seqS (fun ρ => bd (boolT (o2 neD (bd (vl ρ 0) (slotM 0 2)) (bd (vl ρ 1) fun d => bd (insM 0 d) fun d => noX (callM 1 m_Edits_many [d])))) fun t => iteM t ((raiseF 2 "index" fun ρ => (consM (rt .non) (rt []))) ρ) (nextS ρ))
  (seqS (asgT (.tup [3, 4]) fun ρ => (bd (consM (bd (vl ρ 0) (slotM 0 1)) (consM (bd (vl ρ 1) fun d => bd (insM 0 d) fun d => noX (callM 1 m_Edits_acts [d])) (rt []))) fun ds => callM 2 m_carried_row ds))
  (seqS (setV 2 fun ρ => (bd (consM (bd (vl ρ 1) fun d => bd (insM 0 d) fun d => noX (callM 1 m_Edits_abs [d])) (consM (c1 tupleD (consM (vb ρ 3) (rt []))) (rt []))) fun ds => callM 2 m_Edits_init ds))
  (seqS (fun ρ => bd (notT (boolT (bd (consM (o2 ixD (bd (vl ρ 0) (slotM 0 0)) (negM (rt (.int 1)))) (consM (vl ρ 4) (rt []))) fun ds => callM 2 m_can_do ds))) fun t => iteM t ((raiseF 2 "index" fun ρ => (consM (c1 lenD (consM (vb ρ 3) (rt []))) (rt []))) ρ) (nextS ρ))
  (fun ρ => bd (vl ρ 2) fun d => rt (.ret d))))))
def m_Edits_mod : List D → M D := fnM 5 b_Edits_mod
def b__law_gap_over : Sm.Env → M Out :=
  (seqS (fun ρ => bd (boolT (o2 eqD (o2 ixD (vb ρ 0) (rt (.int 0))) (rt (.str "move")))) fun t => iteM t ((seqS (setV 1 fun ρ => (bd (boolT (o2 gtI (vb ρ 1) (o2 ixD (vb ρ 0) (rt (.int 1))))) fun t => iteM t (o2 subI (vb ρ 1) (rt (.int 1))) (vl ρ 1)))
  (setV 3 fun ρ => (o2 ixD (vb ρ 0) (rt (.int 2))))) ρ) ((fun ρ => bd (boolT (o2 eqD (o2 ixD (vb ρ 0) (rt (.int 0))) (rt (.str "out")))) fun t => iteM t ((fun ρ => bd (bd (boolT (o2 gtI (vb ρ 1) (o2 ixD (vb ρ 0) (rt (.int 1))))) fun t => iteM t (o2 subI (vb ρ 1) (rt (.int 1))) (vl ρ 1)) fun d => rt (.ret d)) ρ) ((setV 3 fun ρ => (bd (boolT (o2 eqD (o2 ixD (vb ρ 0) (rt (.int 0))) (rt (.str "put")))) fun t => iteM t (o2 ixD (vb ρ 0) (rt (.int 1))) (o2 ixD (vb ρ 0) (rt (.int 2))))) ρ)) ρ))
  (seqS (fun ρ => bd (boolT (o2 eqD (vb ρ 1) (vb ρ 3))) fun t => iteM t ((fun ρ => bd (bd (boolT (vl ρ 2)) fun t => iteM t (o2 addA (vb ρ 1) (rt (.int 1))) (vl ρ 1)) fun d => rt (.ret d)) ρ) (nextS ρ))
  (fun ρ => bd (bd (boolT (o2 gtI (vb ρ 1) (vb ρ 3))) fun t => iteM t (o2 addA (vb ρ 1) (rt (.int 1))) (vl ρ 1)) fun d => rt (.ret d))))
def m__law_gap_over : List D → M D := fnM 4 b__law_gap_over
def b__law_step_over : Sm.Env → M Out :=
  (seqS (fun ρ => bd (boolT (o2 (inD false) (o2 ixD (vb ρ 0) (rt (.int 0))) (tupM (consM (rt (.str "out")) (consM (rt (.str "move")) (rt [])))))) fun t => iteM t ((seqS (fun ρ => bd (boolT (o2 eqD (vb ρ 1) (o2 ixD (vb ρ 0) (rt (.int 1))))) fun t => iteM t ((fun ρ => bd (bd (boolT (o2 eqD (o2 ixD (vb ρ 0) (rt (.int 0))) (rt (.str "out")))) fun t => iteM t (rt .non) (o2 ixD (vb ρ 0) (rt (.int 2)))) fun d => rt (.ret d)) ρ) (nextS ρ))
  (setV 1 fun ρ => (bd (boolT (o2 gtI (vb ρ 1) (o2 ixD (vb ρ 0) (rt (.int 1))))) fun t => iteM t (o2 subI (vb ρ 1) (rt (.int 1))) (vl ρ 1)))) ρ) (nextS ρ))
  (seqS (fun ρ => bd (boolT (o2 eqD (o2 ixD (vb ρ 0) (rt (.int 0))) (rt (.str "out")))) fun t => iteM t ((fun ρ => bd (vl ρ 1) fun d => rt (.ret d)) ρ) (nextS ρ))
  (seqS (setV 2 fun ρ => (bd (boolT (o2 eqD (o2 ixD (vb ρ 0) (rt (.int 0))) (rt (.str "put")))) fun t => iteM t (o2 ixD (vb ρ 0) (rt (.int 1))) (o2 ixD (vb ρ 0) (rt (.int 2)))))
  (fun ρ => bd (bd (boolT (o2 geI (vb ρ 1) (vb ρ 2))) fun t => iteM t (o2 addA (vb ρ 1) (rt (.int 1))) (vl ρ 1)) fun d => rt (.ret d)))))
def m__law_step_over : List D → M D := fnM 3 b__law_step_over
def b__law_over : Sm.Env → M Out :=
  (seqS (fun ρ => bd (orT (boolT (bd (vb ρ 0) fun x => op1 (isN false) x)) (boolT (bd (vb ρ 1) fun x => op1 (isN false) x))) fun t => iteM t ((fun ρ => bd (vl ρ 0) fun d => rt (.ret d)) ρ) (nextS ρ))
  (seqS (fun ρ => bd (boolT (o2 eqD (o2 ixD (vb ρ 0) (rt (.int 0))) (rt (.str "put")))) fun t => iteM t ((fun ρ => bd (tupM (consM (rt (.str "put")) (consM (bd (consM (vl ρ 1) (consM (o2 ixD (vb ρ 0) (rt (.int 1))) (consM (vl ρ 2) (rt [])))) fun ds => callM 3 m__law_gap_over ds) (rt [])))) fun d => rt (.ret d)) ρ) (nextS ρ))
  (seqS (setV 3 fun ρ => (bd (consM (vl ρ 1) (consM (o2 ixD (vb ρ 0) (rt (.int 1))) (rt []))) fun ds => callM 2 m__law_step_over ds))
  (seqS (fun ρ => bd (boolT (bd (vb ρ 3) fun x => op1 (isN false) x)) fun t => iteM t ((fun ρ => bd (rt .non) fun d => rt (.ret d)) ρ) (nextS ρ))
  (seqS (fun ρ => bd (boolT (o2 eqD (o2 ixD (vb ρ 0) (rt (.int 0))) (rt (.str "out")))) fun t => iteM t ((fun ρ => bd (tupM (consM (rt (.str "out")) (consM (vl ρ 3) (rt [])))) fun d => rt (.ret d)) ρ) (nextS ρ))
  (seqS (fun ρ => bd (boolT (o2 eqD (o2 ixD (vb ρ 0) (rt (.int 0))) (rt (.str "copy")))) fun t => iteM t ((fun ρ => bd (tupM (consM (rt (.str "copy")) (consM (vl ρ 3) (consM (bd (consM (vl ρ 1) (consM (o2 ixD (vb ρ 0) (rt (.int 2))) (consM (vl ρ 2) (rt [])))) fun ds => callM 3 m__law_gap_over ds) (rt []))))) fun d => rt (.ret d)) ρ) (nextS ρ))
  (seqS (setV 4 fun ρ => (bd (consM (vl ρ 1) (consM (o2 addA (o2 ixD (vb ρ 0) (rt (.int 2))) (bd (boolT (o2 ltI (o2 ixD (vb ρ 0) (rt (.int 2))) (o2 ixD (vb ρ 0) (rt (.int 1))))) fun t => iteM t (rt (.int 0)) (rt (.int 1)))) (consM (vl ρ 2) (rt [])))) fun ds => callM 3 m__law_gap_over ds))
  (seqS (setV 5 fun ρ => (bd (boolT (o2 leI (vb ρ 4) (vb ρ 3))) fun t => iteM t (vl ρ 4) (o2 subI (vb ρ 4) (rt (.int 1)))))
  (fun ρ => bd (bd (boolT (o2 neD (vb ρ 5) (vb ρ 3))) fun t => iteM t (tupM (consM (rt (.str "move")) (consM (vl ρ 3) (consM (vl ρ 5) (rt []))))) (rt .non)) fun d => rt (.ret d))))))))))
def m__law_over : List D → M D := fnM 6 b__law_over
def b__law_row_over : Sm.Env → M Out :=
  (seqS (parS [3, 4] 2 fun ρ => (bd (lstM (rt [])) fun ds => bd (bd (c1N listD (consM (vb ρ 1) (rt []))) fun ds => bd (rt []) fun ss => rt (.own ds :: ss)) fun ss => rt (.own ds :: ss)))
  (seqS (fun ρ => bd (bd (vl ρ 0) seqM) fun ds => forM (.one 2) (seqS (setN 5 fun ρ => (lstM (rt [])))
  (seqS (fun ρ => (fun ρ => bd (bd (vl ρ 4) seqM) fun ds => forM (.one 6) (seqS (appS 5 fun ρ => (bd (consM (vl ρ 6) (consM (vl ρ 2) (consM (rt (.bl false)) (rt [])))) fun ds => callM 3 m__law_over ds))
  (setV 2 fun ρ => (bd (consM (vl ρ 2) (consM (vl ρ 6) (consM (rt (.bl true)) (rt [])))) fun ds => callM 3 m__law_over ds))) ds ρ) (frzS [4] ρ))
  (seqS (fun ρ => (setV 4 fun ρ => (vl ρ 5)) (frzS [5] ρ))
  (fun ρ => bd (boolT (bd (vb ρ 2) fun x => op1 (isN true) x)) fun t => iteM t ((appS 3 fun ρ => (vl ρ 2)) ρ) (nextS ρ))))) ds ρ)
  (fun ρ => bd (tupM (consM (c1 tupleD (consM (vb ρ 3) (rt []))) (consM (c1 tupleD (consM (bd (bd (bd (vb ρ 4) ownM) fun ds => noX (lcM (fun d => bindD (.one 6) d (wipeE ρ [6])) (fun ρ => (boolT (bd (vb ρ 6) fun x => op1 (isN true) x))) (fun ρ => (vl ρ 6)) ds)) fun ds => rt (.lst ds)) (rt []))) (rt [])))) fun d => rt (.ret d))))
def m__law_row_over : List D → M D := fnM 7 b__law_row_over
def b__law_end_of : Sm.Env → M Out :=
  (seqS (fun ρ => bd (bd (vl ρ 1) seqM) fun ds => forM (.one 2) (setV 0 fun ρ => (bd (consM (vl ρ 0) (consM (vl ρ 2) (rt []))) fun ds => callM 2 m__law_many_after ds)) ds ρ)
  (fun ρ => bd (vl ρ 0) fun d => rt (.ret d)))
def m__law_end_of : List D → M D := fnM 3 b__law_end_of
def b__law_first_wrong : Sm.Env → M Out :=
  (seqS (fun ρ => bd (range1M (consM (c1 lenD (consM (vb ρ 1) (rt []))) (rt []))) fun ds => forM (.one 2) (seqS (fun ρ => bd (notT (boolT (bd (consM (o2 mulA (tupM (consM (tupM (consM (rt .non) (consM (tupM (rt [])) (rt [])))) (rt []))) (vb ρ 0)) (consM (o2 ixD (vb ρ 1) (vb ρ 2)) (rt []))) fun ds => callM 2 m__law_can ds))) fun t => iteM t ((fun ρ => bd (vl ρ 2) fun d => rt (.ret d)) ρ) (nextS ρ))
  (setV 0 fun ρ => (bd (consM (vl ρ 0) (consM (o2 ixD (vb ρ 1) (vb ρ 2)) (rt []))) fun ds => callM 2 m__law_many_after ds))) ds ρ)
  (fun ρ => bd (rt .non) fun d => rt (.ret d)))
def m__law_first_wrong : List D → M D := fnM 3 b__law_first_wrong
def b__law_due : Sm.Env → M Out :=
  (seqS (asgT (.tup [5, 6]) fun ρ => (bd (consM (vl ρ 1) (consM (vl ρ 2) (rt []))) fun ds => callM 2 m__law_row_over ds))
  (seqS (setV 3 fun ρ => (bd (consM (vl ρ 0) (consM (vl ρ 2) (rt []))) fun ds => callM 2 m__law_end_of ds))
  (seqS (setV 4 fun ρ => (bd (consM (vl ρ 3) (consM (vl ρ 5) (rt []))) fun ds => callM 2 m__law_first_wrong ds))
  (seqS (fun ρ => bd (boolT (bd (vb ρ 4) fun x => op1 (isN true) x)) fun t => iteM t ((fun ρ => bd (tupM (consM (rt (.str "wrong")) (consM (vl ρ 4) (rt [])))) fun d => rt (.ret d)) ρ) (nextS ρ))
  (seqS (fun ρ => bd (boolT (bd (bd (consM (bd (consM (vl ρ 0) (consM (vl ρ 1) (rt []))) fun ds => callM 2 m__law_end_of ds) (consM (vl ρ 6) (rt []))) fun ds => callM 2 m__law_first_wrong ds) fun x => op1 (isN true) x)) fun t => iteM t ((fun ρ => bd (tupM (consM (rt (.str "wrong")) (consM (c1 lenD (consM (vb ρ 5) (rt []))) (rt [])))) fun d => rt (.ret d)) ρ) (nextS ρ))
  (fun ρ => bd (tupM (consM (vl ρ 3) (consM (vl ρ 5) (rt [])))) fun d => rt (.ret d)))))))
def m__law_due : List D → M D := fnM 7 b__law_due
def b_Edits_none : Sm.Env → M Out :=
  (fun ρ => bd (bd (consM (vl ρ 0) (consM (tupM (rt [])) (rt []))) fun ds => callM 2 m_Edits_init ds) fun d => rt (.ret d))
def m_Edits_none : List D → M D := fnM 1 b_Edits_none
def b_Edits_eq : Sm.Env → M Out :=
  (fun ρ => bd (andV (c1 (isoD 1) (consM (vb ρ 1) (consM (rt (.cls 0)) (rt [])))) (andV (o2 eqD (bd (vl ρ 0) (slotM 0 2)) (bd (vl ρ 1) fun d => bd (insM 0 d) fun d => noX (callM 1 m_Edits_many [d]))) (o2 eqD (bd (vl ρ 0) (slotM 0 1)) (bd (vl ρ 1) fun d => bd (insM 0 d) fun d => noX (callM 1 m_Edits_acts [d]))))) fun d => rt (.ret d))
def m_Edits_eq : List D → M D := fnM 2 b_Edits_eq
def b_law : Sm.Env → M Out :=
  (seqS (setN 0 fun ρ => (bd (vb ρ 0) fun x => bd (rt none) fun i => bd (bd (rt (.int 63)) asI) fun j => sliceL x i j))
  (seqS (fun ρ => bd (range3M (consM (rt (.int 0)) (consM (c1 max2D (consM (rt (.int 1)) (consM (c1 min2D (consM (rt (.int 12)) (consM (c1 lenD (consM (vb ρ 0) (rt []))) (rt [])))) (rt [])))) (consM (rt (.int 3)) (rt []))))) fun ds => forM (.one 1) (seqS (fun ρ => (fun ρ => bd (lstM (consM (vl ρ 0) (consM (vl ρ 1) (consM (rt (.int 0)) (rt []))))) fun ds => fun S => .ok (.nx (ρ.set 2 (.val (.ref S.length)))) (S ++ [.lst ds])) (frzS [0] ρ))
  (fun ρ => bd (range1M (consM (rt (.int 6)) (rt []))) fun ds => forM (.one 3) (seqS (setV 4 fun ρ => (bd (consM (vl ρ 2) (consM (rt (.int 5)) (rt []))) fun ds => callM 2 m__law_next ds))
  (seqS (parS [7, 8] 2 fun ρ => (bd (bd (consM (vl ρ 2) (consM (vl ρ 4) (consM (rt (.int 3)) (rt [])))) fun ds => callM 3 m__law_some_edits ds) fun d => bd (bd (bd (consM (vl ρ 2) (consM (vl ρ 4) (consM (rt (.int 3)) (rt [])))) fun ds => callM 3 m__law_some_edits ds) fun d => bd (rt []) fun ss => rt (.val d :: ss)) fun ss => rt (.val d :: ss)))
  (seqS (asgT (.tup [9, 10]) fun ρ => (tupM (consM (bd (consM (vl ρ 4) (consM (vl ρ 7) (rt []))) fun ds => callM 2 m_Edits_init ds) (consM (bd (consM (vl ρ 4) (consM (vl ρ 8) (rt []))) fun ds => callM 2 m_Edits_init ds) (rt [])))))
  (seqS (fun ρ => bd (boolT (o2 neD (askT [((tstL [(2, true)]), .tup "wrong" "index")] (fun ρ => tupM (consM (bd (vl ρ 1) fun d => bd (insM 0 d) fun d => noX (callM 1 m_Edits_many [d])) (consM (bd (vl ρ 1) fun d => bd (insM 0 d) fun d => noX (callM 1 m_Edits_acts [d])) (rt [])))) (bd (vl ρ 9) fun x => bd (vl ρ 10) fun y => bd (insM 0 x) fun x => bd (insM 0 y) fun y => callM 2 m_Edits_mod [x, y])) (bd (consM (vl ρ 4) (consM (vl ρ 7) (consM (vl ρ 8) (rt [])))) fun ds => callM 3 m__law_due ds))) fun t => iteM t ((fun ρ => bd (rt (.bl false)) fun d => rt (.ret d)) ρ) (nextS ρ))
  (seqS (fun ρ => bd (boolT (o2 neD (askT [((tstL [(2, true)]), .tup "wrong" "index")] (fun ρ => tupM (consM (bd (vl ρ 1) fun d => bd (insM 0 d) fun d => noX (callM 1 m_Edits_many [d])) (consM (bd (vl ρ 1) fun d => bd (insM 0 d) fun d => noX (callM 1 m_Edits_acts [d])) (rt [])))) (bd (vl ρ 10) fun x => bd (vl ρ 9) fun y => bd (insM 0 x) fun x => bd (insM 0 y) fun y => callM 2 m_Edits_mod [x, y])) (bd (consM (vl ρ 4) (consM (vl ρ 8) (consM (vl ρ 7) (rt [])))) fun ds => callM 3 m__law_due ds))) fun t => iteM t ((fun ρ => bd (rt (.bl false)) fun d => rt (.ret d)) ρ) (nextS ρ))
  (seqS (setV 5 fun ρ => (bd (consM (vl ρ 4) (rt [])) fun ds => callM 1 m_Edits_none ds))
  (seqS (fun ρ => bd (orT (boolT (bd (bd (vl ρ 9) fun x => bd (vl ρ 5) fun y => bd (insM 0 x) fun x => bd (insM 0 y) fun y => callM 2 m_Edits_mod [x, y]) fun x => bd (vl ρ 9) fun y => bd (insM 0 x) fun x => bd (anyM 1 y) fun y => bd (callM 2 m_Edits_eq [x, y]) fun d => bd (asB d) fun t => rt (.bl (!t)))) (orT (boolT (o2 neD (bd (bd (vl ρ 5) fun x => bd (vl ρ 9) fun y => bd (insM 0 x) fun x => bd (insM 0 y) fun y => callM 2 m_Edits_mod [x, y]) fun d => bd (insM 0 d) fun d => noX (callM 1 m_Edits_acts [d])) (tupM (rt [])))) (boolT (o2 neD (bd (bd (vl ρ 5) fun x => bd (vl ρ 9) fun y => bd (insM 0 x) fun x => bd (insM 0 y) fun y => callM 2 m_Edits_mod [x, y]) fun d => bd (insM 0 d) fun d => noX (callM 1 m_Edits_many [d])) (bd (vl ρ 9) fun d => bd (insM 0 d) fun d => noX (callM 1 m_Edits_abs [d])))))) fun t => iteM t ((fun ρ => bd (rt (.bl false)) fun d => rt (.ret d)) ρ) (nextS ρ))
  (seqS (setV 6 fun ρ => (bd (consM (o2 addA (vb ρ 4) (rt (.int 1))) (consM (tupM (rt [])) (rt []))) fun ds => callM 2 m_Edits_init ds))
  (fun ρ => bd (boolT (o2 neD (askT [((tstL [(2, true)]), .tup "wrong" "index")] (fun ρ => tupM (consM (bd (vl ρ 1) fun d => bd (insM 0 d) fun d => noX (callM 1 m_Edits_many [d])) (consM (bd (vl ρ 1) fun d => bd (insM 0 d) fun d => noX (callM 1 m_Edits_acts [d])) (rt [])))) (bd (vl ρ 9) fun x => bd (vl ρ 6) fun y => bd (insM 0 x) fun x => bd (insM 0 y) fun y => callM 2 m_Edits_mod [x, y])) (tupM (consM (rt (.str "wrong")) (consM (rt .non) (rt [])))))) fun t => iteM t ((fun ρ => bd (rt (.bl false)) fun d => rt (.ret d)) ρ) (nextS ρ)))))))))) ds ρ)) ds ρ)
  (fun ρ => bd (rt (.bl true)) fun d => rt (.ret d))))
def m_law : List D → M D := fnM 11 b_law
/-- the defs that hold lambdas -/
abbrev tq : List (At × Str) := [(.glo "law", "law")]
/-- what the top has made -/
structure Fc (P : Program) (c : Cf) (w : World) (mg : Str → Option Value) : Prop where
  C : CF c 1
  tb : c.tb = tbs c.K tq
  tu : tbsB c.K tq = true
  g_Edits : mg "Edits" = some (.ref (c.cls 0))
  g_LETTERS : ∃ ad, mg "LETTERS" = some (.ref ad) ∧ KTs c.K ad LETTERS_L
  g_MOST_NUMBER : ∃ u, mg "MOST_NUMBER" = some u ∧ RelV (.int 9) u
  g_MOST_POINTERS : ∃ u, mg "MOST_POINTERS" = some u ∧ RelV (.int 2) u
  g_MOST_STEPS : ∃ u, mg "MOST_STEPS" = some u ∧ RelV (.int 6) u
  g_PLAIN : ∃ u v, mg "PLAIN" = some u ∧ RelV v u ∧ ∀ Ψ, Rep c Ψ v PLAIN_D
  g_abs : mg "abs" = none
  g_all : mg "all" = none
  g_bool : mg "bool" = none
  g_enumerate : mg "enumerate" = none
  xm_BadEdits_BadEdits : PySem.W.exmOne c.K (.ref (c.cls 2)) (.ref (c.cls 2)) = some true
  g_int : mg "int" = none
  g_isinstance : mg "isinstance" = none
  g_len : mg "len" = none
  g_list : mg "list" = none
  g_max : mg "max" = none
  g_min : mg "min" = none
  ne_Edits : PySem.W.findIn c.K (.ref (c.cls 0)) "__ne__" = some (some (.builtin "object.__ne__"))
  g_range : mg "range" = none
  sf_Edits : PySem.W.selfFirst c.K (c.cls 0) = true
  s_Edits_counts : ∃ ad, SlX.Slot1 c.K (c.cls 0) "counts" ad 0
  s_Edits_own_acts : ∃ ad, SlX.Slot1 c.K (c.cls 0) "own_acts" ad 1
  s_Edits_own_many : ∃ ad, SlX.Slot1 c.K (c.cls 0) "own_many" ad 2
  g_str : mg "str" = none
  g_tuple : mg "tuple" = none
  xf_BadEdits : XfC c.K (c.cls 2) ∧ PySem.W.findIn c.K (.ref (c.cls 2)) "index" = some none
  xi_BadEdits : mg "BadEdits" = some (.ref (c.cls 2)) ∧ ∃ fI qual fd sn xn cda cc, XiC P c.K mg (c.cls 2) fI "index" qual fd sn xn cda cc
  f__law_cell_at : ∃ ad fd, mg "_law_cell_at" = some (.ref ad) ∧ FunD c.K "_law_cell_at" "_law_cell_at" (defArgs (top 65)) (defBody (top 65)) (defScope (top 65)) [] [] ad fd
  f__law_draw : ∃ ad fd, mg "_law_draw" = some (.ref ad) ∧ FunD c.K "_law_draw" "_law_draw" (defArgs (top 66)) (defBody (top 66)) (defScope (top 66)) [] [] ad fd
  f__law_number : ∃ ad fd, mg "_law_number" = some (.ref ad) ∧ FunD c.K "_law_number" "_law_number" (defArgs (top 67)) (defBody (top 67)) (defScope (top 67)) [] [] ad fd
  f__law_next : ∃ ad fd, mg "_law_next" = some (.ref ad) ∧ FunD c.K "_law_next" "_law_next" (defArgs (top 68)) (defBody (top 68)) (defScope (top 68)) [] [] ad fd
  f__law_edits : ∃ ad fd, mg "_law_edits" = some (.ref ad) ∧ FunD c.K "_law_edits" "_law_edits" (defArgs (top 69)) (defBody (top 69)) (defScope (top 69)) [] [] ad fd
  f__law_can : ∃ ad fd, mg "_law_can" = some (.ref ad) ∧ FunD c.K "_law_can" "_law_can" (defArgs (top 63)) (defBody (top 63)) (defScope (top 63)) [] [] ad fd
  f__law_pick : ∃ ad fd, mg "_law_pick" = some (.ref ad) ∧ FunD c.K "_law_pick" "_law_pick" (defArgs (top 70)) (defBody (top 70)) (defScope (top 70)) [] [] ad fd
  f__law_many_after : ∃ ad fd, mg "_law_many_after" = some (.ref ad) ∧ FunD c.K "_law_many_after" "_law_many_after" (defArgs (top 61)) (defBody (top 61)) (defScope (top 61)) [] [] ad fd
  f__law_some_edits : ∃ ad fd, mg "_law_some_edits" = some (.ref ad) ∧ FunD c.K "_law_some_edits" "_law_some_edits" (defArgs (top 71)) (defBody (top 71)) (defScope (top 71)) [] [] ad fd
  f_is_number : ∃ ad fd, mg "is_number" = some (.ref ad) ∧ FunD c.K "is_number" "is_number" (defArgs (top 17)) (defBody (top 17)) (defScope (top 17)) [] [] ad fd
  f_is_label : ∃ ad fd, mg "is_label" = some (.ref ad) ∧ FunD c.K "is_label" "is_label" (defArgs (top 18)) (defBody (top 18)) (defScope (top 18)) [] [] ad fd
  f_is_pointer : ∃ ad fd, mg "is_pointer" = some (.ref ad) ∧ FunD c.K "is_pointer" "is_pointer" (defArgs (top 19)) (defBody (top 19)) (defScope (top 19)) [] [] ad fd
  f_is_step : ∃ ad fd, mg "is_step" = some (.ref ad) ∧ FunD c.K "is_step" "is_step" (defArgs (top 20)) (defBody (top 20)) (defScope (top 20)) [] [] ad fd
  f_are_rows : ∃ ad fd, mg "are_rows" = some (.ref ad) ∧ FunD c.K "are_rows" "are_rows" (defArgs (top 21)) (defBody (top 21)) (defScope (top 21)) [] [] ad fd
  f_is_edit : ∃ ad fd, mg "is_edit" = some (.ref ad) ∧ FunD c.K "is_edit" "is_edit" (defArgs (top 32)) (defBody (top 32)) (defScope (top 32)) [] [] ad fd
  f_many_after : ∃ ad fd, mg "many_after" = some (.ref ad) ∧ FunD c.K "many_after" "many_after" (defArgs (top 51)) (defBody (top 51)) (defScope (top 51)) [] [] ad fd
  f_counts_along : ∃ ad fd, mg "counts_along" = some (.ref ad) ∧ FunD c.K "counts_along" "counts_along" (defArgs (top 52)) (defBody (top 52)) (defScope (top 52)) [] [] ad fd
  f_Edits_init : ∃ ad fd, Mk c.K (c.cls 0) ad ∧ FunD c.K "__init__" "Edits.__init__" (defArgs (inClass (top 56) 1)) (defBody (inClass (top 56) 1)) (defScope (inClass (top 56) 1)) [] [] ad fd
  f__law_made_row : ∃ ad fd, mg "_law_made_row" = some (.ref ad) ∧ FunD c.K "_law_made_row" "_law_made_row" (defArgs (top 72)) (defBody (top 72)) (defScope (top 72)) [] [] ad fd
  f_Edits_many : ∃ p ad fd, Prp c.K (c.cls 0) "many" p ad ∧ FunD c.K "many" "Edits.many" (defArgs (inClass (top 56) 3)) (defBody (inClass (top 56) 3)) (defScope (inClass (top 56) 3)) [] [] ad fd
  f_gap_over : ∃ ad fd, mg "gap_over" = some (.ref ad) ∧ FunD c.K "gap_over" "gap_over" (defArgs (top 45)) (defBody (top 45)) (defScope (top 45)) [] [] ad fd
  f_step_over : ∃ ad fd, mg "step_over" = some (.ref ad) ∧ FunD c.K "step_over" "step_over" (defArgs (top 46)) (defBody (top 46)) (defScope (top 46)) [] [] ad fd
  f_move_over : ∃ ad fd, mg "move_over" = some (.ref ad) ∧ FunD c.K "move_over" "move_over" (defArgs (top 47)) (defBody (top 47)) (defScope (top 47)) [] [] ad fd
  f_over : ∃ ad fd, mg "over" = some (.ref ad) ∧ FunD c.K "over" "over" (defArgs (top 48)) (defBody (top 48)) (defScope (top 48)) [] [] ad fd
  f_carried_row : ∃ ad fd, mg "carried_row" = some (.ref ad) ∧ FunD c.K "carried_row" "carried_row" (defArgs (top 54)) (defBody (top 54)) (defScope (top 54)) [] [] ad fd
  f_Edits_acts : ∃ p ad fd, Prp c.K (c.cls 0) "acts" p ad ∧ FunD c.K "acts" "Edits.acts" (defArgs (inClass (top 56) 4)) (defBody (inClass (top 56) 4)) (defScope (inClass (top 56) 4)) [] [] ad fd
  f_Edits_abs : ∃ ad fd, Meth c.K (c.cls 0) "__abs__" ad ∧ FunD c.K "__abs__" "Edits.__abs__" (defArgs (inClass (top 56) 6)) (defBody (inClass (top 56) 6)) (defScope (inClass (top 56) 6)) [] [] ad fd
  f_can_do : ∃ ad fd, mg "can_do" = some (.ref ad) ∧ FunD c.K "can_do" "can_do" (defArgs (top 53)) (defBody (top 53)) (defScope (top 53)) [] [] ad fd
  f_Edits_mod : ∃ ad fd, Meth c.K (c.cls 0) "__mod__" ad ∧ FunD c.K "__mod__" "Edits.__mod__" (defArgs (inClass (top 56) 15)) (defBody (inClass (top 56) 15)) (defScope (inClass (top 56) 15)) [] [] ad fd
  f__law_gap_over : ∃ ad fd, mg "_law_gap_over" = some (.ref ad) ∧ FunD c.K "_law_gap_over" "_law_gap_over" (defArgs (top 58)) (defBody (top 58)) (defScope (top 58)) [] [] ad fd
  f__law_step_over : ∃ ad fd, mg "_law_step_over" = some (.ref ad) ∧ FunD c.K "_law_step_over" "_law_step_over" (defArgs (top 59)) (defBody (top 59)) (defScope (top 59)) [] [] ad fd
  f__law_over : ∃ ad fd, mg "_law_over" = some (.ref ad) ∧ FunD c.K "_law_over" "_law_over" (defArgs (top 60)) (defBody (top 60)) (defScope (top 60)) [] [] ad fd
  f__law_row_over : ∃ ad fd, mg "_law_row_over" = some (.ref ad) ∧ FunD c.K "_law_row_over" "_law_row_over" (defArgs (top 73)) (defBody (top 73)) (defScope (top 73)) [] [] ad fd
  f__law_end_of : ∃ ad fd, mg "_law_end_of" = some (.ref ad) ∧ FunD c.K "_law_end_of" "_law_end_of" (defArgs (top 62)) (defBody (top 62)) (defScope (top 62)) [] [] ad fd
  f__law_first_wrong : ∃ ad fd, mg "_law_first_wrong" = some (.ref ad) ∧ FunD c.K "_law_first_wrong" "_law_first_wrong" (defArgs (top 64)) (defBody (top 64)) (defScope (top 64)) [] [] ad fd
  f__law_due : ∃ ad fd, mg "_law_due" = some (.ref ad) ∧ FunD c.K "_law_due" "_law_due" (defArgs (top 74)) (defBody (top 74)) (defScope (top 74)) [] [] ad fd
  f_Edits_none : ∃ p ad fd, SMet c.K (c.cls 0) "none" p ad ∧ FunD c.K "none" "Edits.none" (defArgs (inClass (top 56) 2)) (defBody (inClass (top 56) 2)) (defScope (inClass (top 56) 2)) [] [] ad fd
  f_Edits_eq : ∃ ad fd, Meth c.K (c.cls 0) "__eq__" ad ∧ FunD c.K "__eq__" "Edits.__eq__" (defArgs (inClass (top 56) 18)) (defBody (inClass (top 56) 18)) (defScope (inClass (top 56) 18)) [] [] ad fd
  f_law : ∃ fd, mg "law" = some (.ref (He.ga c.K "law")) ∧ FunD c.K "law" "law" (defArgs (top 75)) (defBody (top 75)) (defScope (top 75)) [] [] (He.ga c.K "law") fd
section
variable {c : Cf} {P : Program} {w : World} {mg : Str → Option Value} {base : Heap}
theorem sc__law_cell_at : FnScope ["_law_script", "_law_k"] ["_law_script", "_law_k"] (defScope (top 65)) := ⟨rfl, rfl, rfl, by decide +kernel, rfl, by decide +kernel, by decide +kernel⟩
theorem F__law_cell_at (T : Fc P c w mg) (TB : ∀ p ∈ cds c.K tq, LamX.TabB base mg p.1 p.2) : ∃ ad, mg "_law_cell_at" = some (.ref ad) ∧ Fn c P w mg base 1 ad 2 m__law_cell_at := by
  have h_len := T.g_len
  have hC := T.C
  obtain ⟨ad, fd, hmg, F⟩ := T.f__law_cell_at
  exact ⟨_, hmg, fn_mk (k := 0) F sc__law_cell_at (F.bindsN fun _ _ _ _ _ _ us hl => match us, hl with | [_, _], _ => rfl) (fun cdv A outer s H E hr => by
    have sc := sc__law_cell_at
    have hu := hr.units
    have hu1 := hu_of hr
    exact (sss_cons (ss_if (st_lt (sb_var rfl (i := 1)) (SE.sb (se_len (sab_cons (sb_var rfl (i := 0)) (sab_nil rfl)) h_len))) (sss_one (ss_ret (se_ix (sb_var rfl (i := 0)) (sb_var rfl (i := 1))))) (sss_nil rfl))
    (sss_one (ss_ret (se_int rfl)))))⟩
theorem sc__law_draw : FnScope ["_law_cell", "_law_k", "_law_bound", "_law_primes"] ["_law_cell", "_law_k", "_law_bound"] (defScope (top 66)) := ⟨rfl, rfl, rfl, by decide +kernel, rfl, by decide +kernel, by decide +kernel⟩
theorem F__law_draw (T : Fc P c w mg) (TB : ∀ p ∈ cds c.K tq, LamX.TabB base mg p.1 p.2) : ∃ ad, mg "_law_draw" = some (.ref ad) ∧ Fn c P w mg base 1 ad 3 m__law_draw := by
  have h_int := T.g_int
  have hC := T.C
  obtain ⟨ad, fd, hmg, F⟩ := T.f__law_draw
  exact ⟨_, hmg, fn_mk (k := 0) F sc__law_draw (F.bindsN fun _ _ _ _ _ _ us hl => match us, hl with | [_, _, _], _ => rfl) (fun cdv A outer s H E hr => by
    have sc := sc__law_draw
    have hu := hr.units
    have hu1 := hu_of hr
    exact (sss_cons (ss_set (i := 3) (se_tup (sa_cons (se_int rfl) (sa_cons (se_int rfl) (sa_cons (se_int rfl) (sa_cons (se_int rfl) (sa_cons (se_int rfl) (sa_cons (se_int rfl) (sa_cons (se_int rfl) (sa_cons (se_int rfl) (sa_cons (se_int rfl) (sa_cons (se_int rfl) (sa_cons (se_int rfl) (sa_cons (se_int rfl) (sa_cons (se_int rfl) (sa_cons (se_int rfl) (sa_cons (se_int rfl) (sa_cons (se_int rfl) (sa_nil rfl)))))))))))))))))) sc.nd)
    (sss_one (ss_ret (se_mod (SE.sb (se_toInt (sab_cons (SE.sb (se_mod (SE.sb (se_toInt (sab_cons (SE.sb (se_add (SE.sb (se_mul (sb_var rfl (i := 0)) (SE.sb (se_int rfl)))) (SE.sb (se_mul (sb_var rfl (i := 1)) (SE.sb (se_int rfl)))))) (sab_nil rfl)) h_int)) (SE.sb (se_ix (sb_var rfl (i := 3)) (SE.sb (se_mod (SE.sb (se_toInt (sab_cons (sb_var rfl (i := 1)) (sab_nil rfl)) h_int)) (SE.sb (se_int rfl)))))))) (sab_nil rfl)) h_int)) (sb_var rfl (i := 2)))))))⟩
theorem sc__law_number : FnScope ["_law_cell", "_law_k", "_law_bound", "_law_power", "_law_times", "_law_rest", "_law_small"] ["_law_cell", "_law_k", "_law_bound"] (defScope (top 67)) := ⟨rfl, rfl, rfl, by decide +kernel, rfl, by decide +kernel, by decide +kernel⟩
theorem F__law_number (T : Fc P c w mg) (TB : ∀ p ∈ cds c.K tq, LamX.TabB base mg p.1 p.2) : ∃ ad, mg "_law_number" = some (.ref ad) ∧ Fn c P w mg base 2 ad 3 m__law_number := by
  have h_int := T.g_int
  have h_range := T.g_range
  have hC := T.C
  obtain ⟨_, hg__law_draw, G__law_draw⟩ := F__law_draw (P := P) (base := base) T TB
  obtain ⟨ad, fd, hmg, F⟩ := T.f__law_number
  exact ⟨_, hmg, fn_mk (k := 1) F sc__law_number (F.bindsN fun _ _ _ _ _ _ us hl => match us, hl with | [_, _, _], _ => rfl) (fun cdv A outer s H E hr => by
    have sc := sc__law_number
    have hu := hr.units
    have hu1 := hu_of hr
    exact (sss_cons (ss_set (i := 3) (se_int rfl) sc.nd)
    (sss_cons (ss_for (t := (.one 4)) (si_range1 (sa_cons (se_mod (SE.sb (se_toInt (sab_cons (sb_var rfl (i := 1)) (sab_nil rfl)) h_int)) (SE.sb (se_int rfl))) (sa_nil rfl)) h_range) (sg_one (i := 4) sc.nd) (sss_one (ss_set (i := 3) (se_mul (sb_var rfl (i := 3)) (SE.sb (se_int rfl))) sc.nd)) pa_def)
    (sss_cons (ss_set (i := 5) (se_div (SE.sb (se_sub (sb_var rfl (i := 0)) (SE.sb (se_pow (SE.sb (se_int rfl)) (SE.sb (se_int rfl)))))) (sb_var rfl (i := 3))) sc.nd)
    (sss_cons (ss_if (st_gt (sb_var rfl (i := 5)) (SE.sb (se_int rfl))) (sss_one (ss_ret (se_mod (SE.sb (se_toInt (sab_cons (SE.sb (se_mod (SE.sb (se_toInt (sab_cons (sb_var rfl (i := 5)) (sab_nil rfl)) h_int)) (SE.sb (se_int rfl)))) (sab_nil rfl)) h_int)) (sb_var rfl (i := 2))))) (sss_nil rfl))
    (sss_cons (ss_set (i := 6) (se_mod (SE.sb (se_toInt (sab_cons (sb_var rfl (i := 0)) (sab_nil rfl)) h_int)) (SE.sb (se_int rfl))) sc.nd)
    (sss_one (ss_ret (se_mod (SE.sb (se_toInt (sab_cons (SE.sb (se_call G__law_draw (hr.mono (by decide)) hg__law_draw tk_def (sa_cons (se_mul (SE.sb (se_add (sb_var rfl (i := 6)) (SE.sb (se_mul (SE.sb (se_int rfl)) (sb_var rfl (i := 1)))))) (SE.sb (se_add (SE.sb (se_add (sb_var rfl (i := 6)) (SE.sb (se_mul (SE.sb (se_int rfl)) (sb_var rfl (i := 1)))))) (SE.sb (se_int rfl))))) (sa_cons (se_add (SE.sb (se_mod (SE.sb (se_toInt (sab_cons (sb_var rfl (i := 1)) (sab_nil rfl)) h_int)) (SE.sb (se_int rfl)))) (SE.sb (se_int rfl))) (sa_cons (se_int rfl) (sa_nil rfl)))))) (sab_nil rfl)) h_int)) (sb_var rfl (i := 2)))))))))))⟩
theorem sc__law_next : FnScope ["_law_draw_here", "_law_bound", "_law_at", "_law_cell"] ["_law_draw_here", "_law_bound"] (defScope (top 68)) := ⟨rfl, rfl, rfl, by decide +kernel, rfl, by decide +kernel, by decide +kernel⟩
theorem F__law_next (T : Fc P c w mg) (TB : ∀ p ∈ cds c.K tq, LamX.TabB base mg p.1 p.2) : ∃ ad, mg "_law_next" = some (.ref ad) ∧ Fn c P w mg base 3 ad 2 m__law_next := by
  have h_int := T.g_int
  have hC := T.C
  obtain ⟨_, hg__law_cell_at, G__law_cell_at⟩ := F__law_cell_at (P := P) (base := base) T TB
  obtain ⟨_, hg__law_number, G__law_number⟩ := F__law_number (P := P) (base := base) T TB
  obtain ⟨ad, fd, hmg, F⟩ := T.f__law_next
  exact ⟨_, hmg, fn_mk (k := 2) F sc__law_next (F.bindsN fun _ _ _ _ _ _ us hl => match us, hl with | [_, _], _ => rfl) (fun cdv A outer s H E hr => by
    have sc := sc__law_next
    have hu := hr.units
    have hu1 := hu_of hr
    exact (sss_cons (ss_setIx (i := 0) (se_add (SE.sb (se_ix (sb_var rfl (i := 0)) (SE.sb (se_int rfl)))) (SE.sb (se_int rfl))) (se_int rfl))
    (sss_cons (ss_set (i := 2) (se_div (SE.sb (se_ix (sb_var rfl (i := 0)) (SE.sb (se_int rfl)))) (SE.sb (se_int rfl))) sc.nd)
    (sss_cons (ss_set (i := 3) (se_add (SE.sb (se_call G__law_cell_at (hr.mono (by decide)) hg__law_cell_at tk_def (sa_cons (se_ix (sb_var rfl (i := 0)) (SE.sb (se_int rfl))) (sa_cons (se_add (SE.sb (se_ix (sb_var rfl (i := 0)) (SE.sb (se_int rfl)))) (sb_var rfl (i := 2))) (sa_nil rfl))))) (SE.sb (se_mul (SE.sb (se_int rfl)) (sb_var rfl (i := 2))))) sc.nd)
    (sss_one (ss_ret (se_call G__law_number (hr.mono (by decide)) hg__law_number tk_def (sa_cons (se_var rfl (i := 3)) (sa_cons (se_add (SE.sb (se_mod (SE.sb (se_toInt (sab_cons (SE.sb (se_ix (sb_var rfl (i := 0)) (SE.sb (se_int rfl)))) (sab_nil rfl)) h_int)) (SE.sb (se_int rfl)))) (SE.sb (se_int rfl))) (sa_cons (se_var rfl (i := 1)) (sa_nil rfl)))))))))))⟩
theorem sc__law_edits : FnScope ["_law_many", "_law_found", "_law_one", "_law_two"] ["_law_many"] (defScope (top 69)) := ⟨rfl, rfl, rfl, by decide +kernel, rfl, by decide +kernel, by decide +kernel⟩
theorem F__law_edits (T : Fc P c w mg) (TB : ∀ p ∈ cds c.K tq, LamX.TabB base mg p.1 p.2) : ∃ ad, mg "_law_edits" = some (.ref ad) ∧ Fn c P w mg base 1 ad 1 m__law_edits := by
  have h_range := T.g_range
  have hC := T.C
  obtain ⟨ad, fd, hmg, F⟩ := T.f__law_edits
  exact ⟨_, hmg, fn_mk (k := 0) F sc__law_edits (F.bindsN fun _ _ _ _ _ _ us hl => match us, hl with | [_], _ => rfl) (fun cdv A outer s H E hr => by
    have sc := sc__law_edits
    have hu := hr.units
    have hu1 := hu_of hr
    exact (sss_cons (ss_setN (i := 1) (sn_lst (sa_nil rfl)) sc.nd)
    (sss_cons (ss_for (t := (.one 2)) (si_range1 (sa_cons (se_var rfl (i := 0)) (sa_nil rfl)) h_range) (sg_one (i := 2) sc.nd) (sss_one (ss_setN (i := 1) (sn_add (sb_var rfl (i := 1)) (SE.sb (SN.se (sn_lc (own := [("_law_two", 3)]) (t := (.one 3)) (SI.sic (si_range1 (sa_cons (se_add (sb_var rfl (i := 0)) (SE.sb (se_int rfl))) (sa_nil rfl)) h_range)) sc.nd (blkOk_by (by kernel_rfl)) (by decide) (fun s H C cl fp => (sg_one (i := 3) sc.nd)) (fun s H C cl fp => sts_nil) (fun s H C cl fp => (se_tup (sa_cons (se_str rfl) (sa_cons (se_var rfl (i := 2)) (sa_cons (se_var rfl (i := 3)) (sa_nil rfl)))))))))) sc.nd)) pa_def)
    (sss_cons (ss_for (t := (.one 2)) (si_range1 (sa_cons (se_var rfl (i := 0)) (sa_nil rfl)) h_range) (sg_one (i := 2) sc.nd) (sss_one (ss_setN (i := 1) (sn_add (sb_var rfl (i := 1)) (SE.sb (SN.se (sn_lc (own := [("_law_two", 3)]) (t := (.one 3)) (SI.sic (si_range1 (sa_cons (se_var rfl (i := 0)) (sa_nil rfl)) h_range)) sc.nd (blkOk_by (by kernel_rfl)) (by decide) (fun s H C cl fp => (sg_one (i := 3) sc.nd)) (fun s H C cl fp => (sts_one (st_ne hu (sb_var rfl (i := 3)) (sb_var rfl (i := 2))))) (fun s H C cl fp => (se_tup (sa_cons (se_str rfl) (sa_cons (se_var rfl (i := 2)) (sa_cons (se_var rfl (i := 3)) (sa_nil rfl)))))))))) sc.nd)) pa_def)
    (sss_one (ss_ret (SN.se (sn_add (SE.sb (SN.se (sn_add (sb_var rfl (i := 1)) (SE.sb (SN.se (sn_lc (own := [("_law_one", 2)]) (t := (.one 2)) (SI.sic (si_range1 (sa_cons (se_var rfl (i := 0)) (sa_nil rfl)) h_range)) sc.nd (blkOk_by (by kernel_rfl)) (by decide) (fun s H C cl fp => (sg_one (i := 2) sc.nd)) (fun s H C cl fp => sts_nil) (fun s H C cl fp => (se_tup (sa_cons (se_str rfl) (sa_cons (se_var rfl (i := 2)) (sa_nil rfl))))))))))) (SE.sb (SN.se (sn_lc (own := [("_law_one", 2)]) (t := (.one 2)) (SI.sic (si_range1 (sa_cons (se_add (sb_var rfl (i := 0)) (SE.sb (se_int rfl))) (sa_nil rfl)) h_range)) sc.nd (blkOk_by (by kernel_rfl)) (by decide) (fun s H C cl fp => (sg_one (i := 2) sc.nd)) (fun s H C cl fp => sts_nil) (fun s H C cl fp => (se_tup (sa_cons (se_str rfl) (sa_cons (se_var rfl (i := 2)) (sa_nil rfl))))))))))))))))⟩
theorem sc__law_can : FnScope ["_law_rows", "_law_edit", "_law_many"] ["_law_rows", "_law_edit"] (defScope (top 63)) := ⟨rfl, rfl, rfl, by decide +kernel, rfl, by decide +kernel, by decide +kernel⟩
theorem F__law_can (T : Fc P c w mg) (TB : ∀ p ∈ cds c.K tq, LamX.TabB base mg p.1 p.2) : ∃ ad, mg "_law_can" = some (.ref ad) ∧ Fn c P w mg base 1 ad 2 m__law_can := by
  have h_len := T.g_len
  have hC := T.C
  obtain ⟨ad, fd, hmg, F⟩ := T.f__law_can
  exact ⟨_, hmg, fn_mk (k := 0) F sc__law_can (F.bindsN fun _ _ _ _ _ _ us hl => match us, hl with | [_, _], _ => rfl) (fun cdv A outer s H E hr => by
    have sc := sc__law_can
    have hu := hr.units
    have hu1 := hu_of hr
    exact (sss_cons (ss_set (i := 2) (se_len (sab_cons (sb_var rfl (i := 0)) (sab_nil rfl)) h_len) sc.nd)
    (sss_cons (ss_if (st_eq hu (SE.sb (se_ix (sb_var rfl (i := 1)) (SE.sb (se_int rfl)))) (SE.sb (se_str rfl))) (sss_one (ss_ret (se_and (se_lt (sb_var rfl (i := 2)) (SE.sb (se_int rfl))) (se_and1 (se_leLe (SE.sb (se_int rfl)) (SE.sb (se_ix (sb_var rfl (i := 1)) (SE.sb (se_int rfl)))) (sb_var rfl (i := 2))))))) (sss_nil rfl))
    (sss_cons (ss_if (st_not (st_leLt (SE.sb (se_int rfl)) (SE.sb (se_ix (sb_var rfl (i := 1)) (SE.sb (se_int rfl)))) (sb_var rfl (i := 2)))) (sss_one (ss_ret (se_bl rfl))) (sss_nil rfl))
    (sss_cons (ss_if (st_eq hu (SE.sb (se_ix (sb_var rfl (i := 1)) (SE.sb (se_int rfl)))) (SE.sb (se_str rfl))) (sss_one (ss_ret (se_and (se_leLt (SE.sb (se_int rfl)) (SE.sb (se_ix (sb_var rfl (i := 1)) (SE.sb (se_int rfl)))) (sb_var rfl (i := 2))) (se_and1 (se_ne hu (SE.sb (se_ix (sb_var rfl (i := 1)) (SE.sb (se_int rfl)))) (SE.sb (se_ix (sb_var rfl (i := 1)) (SE.sb (se_int rfl))))))))) (sss_nil rfl))
    (sss_one (ss_ret (se_or (se_eq hu (SE.sb (se_ix (sb_var rfl (i := 1)) (SE.sb (se_int rfl)))) (SE.sb (se_str rfl))) (se_and1 (se_and (se_lt (sb_var rfl (i := 2)) (SE.sb (se_int rfl))) (se_and1 (se_leLe (SE.sb (se_int rfl)) (SE.sb (se_ix (sb_var rfl (i := 1)) (SE.sb (se_int rfl)))) (sb_var rfl (i := 2))))))))))))))⟩
theorem sc__law_pick : FnScope ["_law_draw_here", "_law_things"] ["_law_draw_here", "_law_things"] (defScope (top 70)) := ⟨rfl, rfl, rfl, by decide +kernel, rfl, by decide +kernel, by decide +kernel⟩
theorem F__law_pick (T : Fc P c w mg) (TB : ∀ p ∈ cds c.K tq, LamX.TabB base mg p.1 p.2) : ∃ ad, mg "_law_pick" = some (.ref ad) ∧ Fn c P w mg base 4 ad 2 m__law_pick := by
  have h_len := T.g_len
  have hC := T.C
  obtain ⟨_, hg__law_next, G__law_next⟩ := F__law_next (P := P) (base := base) T TB
  obtain ⟨ad, fd, hmg, F⟩ := T.f__law_pick
  exact ⟨_, hmg, fn_mk (k := 3) F sc__law_pick (F.bindsN fun _ _ _ _ _ _ us hl => match us, hl with | [_, _], _ => rfl) (fun cdv A outer s H E hr => by
    have sc := sc__law_pick
    have hu := hr.units
    have hu1 := hu_of hr
    exact (sss_one (ss_ret (se_ix (sb_var rfl (i := 1)) (SE.sb (se_call G__law_next (hr.mono (by decide)) hg__law_next tk_def (sa_cons (se_var rfl (i := 0)) (sa_cons (se_len (sab_cons (sb_var rfl (i := 1)) (sab_nil rfl)) h_len) (sa_nil rfl)))))))))⟩
theorem sc__law_many_after : FnScope ["_law_many", "_law_edit"] ["_law_many", "_law_edit"] (defScope (top 61)) := ⟨rfl, rfl, rfl, by decide +kernel, rfl, by decide +kernel, by decide +kernel⟩
theorem F__law_many_after (T : Fc P c w mg) (TB : ∀ p ∈ cds c.K tq, LamX.TabB base mg p.1 p.2) : ∃ ad, mg "_law_many_after" = some (.ref ad) ∧ Fn c P w mg base 1 ad 2 m__law_many_after := by
  have hC := T.C
  obtain ⟨ad, fd, hmg, F⟩ := T.f__law_many_after
  exact ⟨_, hmg, fn_mk (k := 0) F sc__law_many_after (F.bindsN fun _ _ _ _ _ _ us hl => match us, hl with | [_, _], _ => rfl) (fun cdv A outer s H E hr => by
    have sc := sc__law_many_after
    have hu := hr.units
    have hu1 := hu_of hr
    exact (sss_one (ss_ret (se_add (sb_var rfl (i := 0)) (SE.sb (se_if (st_in hu (SE.sb (se_ix (sb_var rfl (i := 1)) (SE.sb (se_int rfl)))) (SE.sb (se_tup (sa_cons (se_str rfl) (sa_cons (se_str rfl) (sa_nil rfl)))))) (se_int rfl) (se_if (st_eq hu (SE.sb (se_ix (sb_var rfl (i := 1)) (SE.sb (se_int rfl)))) (SE.sb (se_str rfl))) (se_neg (se_int rfl)) (se_int rfl))))))))⟩
theorem sc__law_some_edits : FnScope ["_law_draw_here", "_law_many", "_law_bound", "_law_found", "_law_turn", "_law_edits_here", "_law_edit"] ["_law_draw_here", "_law_many", "_law_bound"] (defScope (top 71)) := ⟨rfl, rfl, rfl, by decide +kernel, rfl, by decide +kernel, by decide +kernel⟩
theorem F__law_some_edits (T : Fc P c w mg) (TB : ∀ p ∈ cds c.K tq, LamX.TabB base mg p.1 p.2) : ∃ ad, mg "_law_some_edits" = some (.ref ad) ∧ Fn c P w mg base 5 ad 3 m__law_some_edits := by
  have h_range := T.g_range
  have h_tuple := T.g_tuple
  have hC := T.C
  obtain ⟨_, hg__law_next, G__law_next⟩ := F__law_next (P := P) (base := base) T TB
  obtain ⟨_, hg__law_edits, G__law_edits⟩ := F__law_edits (P := P) (base := base) T TB
  obtain ⟨_, hg__law_can, G__law_can⟩ := F__law_can (P := P) (base := base) T TB
  obtain ⟨_, hg__law_pick, G__law_pick⟩ := F__law_pick (P := P) (base := base) T TB
  obtain ⟨_, hg__law_many_after, G__law_many_after⟩ := F__law_many_after (P := P) (base := base) T TB
  obtain ⟨ad, fd, hmg, F⟩ := T.f__law_some_edits
  exact ⟨_, hmg, fn_mk (k := 4) F sc__law_some_edits (F.bindsN fun _ _ _ _ _ _ us hl => match us, hl with | [_, _, _], _ => rfl) (fun cdv A outer s H E hr => by
    have sc := sc__law_some_edits
    have hu := hr.units
    have hu1 := hu_of hr
    exact (sss_cons (ss_setN (i := 3) (sn_lst (sa_nil rfl)) sc.nd)
    (sss_cons (ss_for (t := (.one 4)) (si_range1 (sa_cons (se_call G__law_next (hr.mono (by decide)) hg__law_next tk_def (sa_cons (se_var rfl (i := 0)) (sa_cons (se_add (sb_var rfl (i := 2)) (SE.sb (se_int rfl))) (sa_nil rfl)))) (sa_nil rfl)) h_range) (sg_one (i := 4) sc.nd) (sss_cons (ss_setLc (i := 5) (own := [("_law_edit", 6)]) (t := (.one 6)) (SI.sic (si_seq (se_call G__law_edits (hr.mono (by decide)) hg__law_edits tk_def (sa_cons (se_var rfl (i := 1)) (sa_nil rfl))))) sc.nd (blkOk_by (by kernel_rfl)) (by decide) (fun s H C cl fp => (sg_one (i := 6) sc.nd)) (fun s H C cl fp => (sts_one (st_val (se_call G__law_can (hr.mono (by decide)) hg__law_can tk_in (sa_cons (se_mul (SE.sb (se_tup (sa_cons (se_tup (sa_cons (se_non rfl) (sa_cons (se_tup (sa_nil rfl)) (sa_nil rfl)))) (sa_nil rfl)))) (sb_var rfl (i := 1))) (sa_cons (se_var rfl (i := 6)) (sa_nil rfl))))))) (fun s H C cl fp => (se_var rfl (i := 6))))
    (sss_cons (ss_frz [5] (ss_set (i := 6) (se_call G__law_pick (hr.mono (by decide)) hg__law_pick tk_def (sa_cons (se_var rfl (i := 0)) (sa_cons (se_var rfl (i := 5)) (sa_nil rfl)))) sc.nd))
    (sss_cons (ss_append (i := 3) (se_var rfl (i := 6)))
    (sss_one (ss_set (i := 1) (se_call G__law_many_after (hr.mono (by decide)) hg__law_many_after tk_def (sa_cons (se_var rfl (i := 1)) (sa_cons (se_var rfl (i := 6)) (sa_nil rfl)))) sc.nd))))) pa_def)
    (sss_one (ss_ret (se_tuple (sab_cons (sb_var rfl (i := 3)) (sab_nil rfl)) h_tuple))))))⟩
theorem sc_is_number : FnScope ["thing", "low", "high"] ["thing", "low", "high"] (defScope (top 17)) := ⟨rfl, rfl, rfl, by decide +kernel, rfl, by decide +kernel, by decide +kernel⟩
theorem F_is_number (T : Fc P c w mg) (TB : ∀ p ∈ cds c.K tq, LamX.TabB base mg p.1 p.2) : ∃ ad, mg "is_number" = some (.ref ad) ∧ Fn c P w mg base 1 ad 3 m_is_number := by
  have h_int := T.g_int
  have h_isinstance := T.g_isinstance
  have h_bool := T.g_bool
  have hC := T.C
  obtain ⟨ad, fd, hmg, F⟩ := T.f_is_number
  exact ⟨_, hmg, fn_mk (k := 0) F sc_is_number (F.bindsN fun _ _ _ _ _ _ us hl => match us, hl with | [_, _, _], _ => rfl) (fun cdv A outer s H E hr => by
    have sc := sc_is_number
    have hu := hr.units
    have hu1 := hu_of hr
    exact (sss_one (ss_ret (se_and (se_isi (sab_cons (sb_var rfl (i := 0)) (sab_cons (SE.sb (se_bltn (v := .ty "int") rfl (by rfl) h_int boot_int rfl (fun _ => .ty _))) (sab_nil rfl))) h_isinstance) (se_and (se_not (se_isi (sab_cons (sb_var rfl (i := 0)) (sab_cons (SE.sb (se_bltn (v := .ty "bool") rfl (by rfl) h_bool (by decide +kernel) rfl (fun _ => .ty _))) (sab_nil rfl))) h_isinstance)) (se_and1 (se_leLe (sb_var rfl (i := 1)) (sb_var rfl (i := 0)) (sb_var rfl (i := 2)))))))))⟩
theorem sc_is_label : FnScope ["thing"] ["thing"] (defScope (top 18)) := ⟨rfl, rfl, rfl, by decide +kernel, rfl, by decide +kernel, by decide +kernel⟩
theorem F_is_label (T : Fc P c w mg) (TB : ∀ p ∈ cds c.K tq, LamX.TabB base mg p.1 p.2) : ∃ ad, mg "is_label" = some (.ref ad) ∧ Fn c P w mg base 1 ad 1 m_is_label := by
  have h_str := T.g_str
  have h_isinstance := T.g_isinstance
  obtain ⟨_, h_LETTERS⟩ := T.g_LETTERS
  have hC := T.C
  obtain ⟨ad, fd, hmg, F⟩ := T.f_is_label
  exact ⟨_, hmg, fn_mk (k := 0) F sc_is_label (F.bindsN fun _ _ _ _ _ _ us hl => match us, hl with | [_], _ => rfl) (fun cdv A outer s H E hr => by
    have sc := sc_is_label
    have hu := hr.units
    have hu1 := hu_of hr
    exact (sss_one (ss_ret (se_and (se_isi (sab_cons (sb_var rfl (i := 0)) (sab_cons (SE.sb (se_bltn (v := .ty "str") rfl (by rfl) h_str (by decide +kernel) rfl (fun _ => .ty _))) (sab_nil rfl))) h_isinstance) (se_and1 (se_in hu (sb_var rfl (i := 0)) (SE.sb (se_glob (v := .ref _) rfl (by rfl) h_LETTERS.1 rfl (h_LETTERS.2.rep (by decide))))))))))⟩
theorem sc_is_pointer : FnScope ["thing"] ["thing"] (defScope (top 19)) := ⟨rfl, rfl, rfl, by decide +kernel, rfl, by decide +kernel, by decide +kernel⟩
theorem F_is_pointer (T : Fc P c w mg) (TB : ∀ p ∈ cds c.K tq, LamX.TabB base mg p.1 p.2) : ∃ ad, mg "is_pointer" = some (.ref ad) ∧ Fn c P w mg base 2 ad 1 m_is_pointer := by
  have h_tuple := T.g_tuple
  have h_isinstance := T.g_isinstance
  have h_len := T.g_len
  have h_str := T.g_str
  obtain ⟨_, h_MOST_NUMBER⟩ := T.g_MOST_NUMBER
  have hC := T.C
  obtain ⟨_, hg_is_label, G_is_label⟩ := F_is_label (P := P) (base := base) T TB
  obtain ⟨_, hg_is_number, G_is_number⟩ := F_is_number (P := P) (base := base) T TB
  obtain ⟨ad, fd, hmg, F⟩ := T.f_is_pointer
  exact ⟨_, hmg, fn_mk (k := 1) F sc_is_pointer (F.bindsN fun _ _ _ _ _ _ us hl => match us, hl with | [_], _ => rfl) (fun cdv A outer s H E hr => by
    have sc := sc_is_pointer
    have hu := hr.units
    have hu1 := hu_of hr
    exact (sss_cons (ss_if (SW.st (sw_or (st_not (st_val (se_isi (sab_cons (sb_var rfl (i := 0)) (sab_cons (SE.sb (se_bltn (v := .ty "tuple") rfl (by rfl) h_tuple boot_tuple rfl (fun _ => .ty _))) (sab_nil rfl))) h_isinstance))) (sw_or (st_ne hu (SE.sb (se_len (sab_cons (sb_var rfl (i := 0)) (sab_nil rfl)) h_len)) (SE.sb (se_int rfl))) (sw_or1 (st_not (st_val (se_isi (sab_cons (SE.sb (se_ix (sb_var rfl (i := 0)) (SE.sb (se_int rfl)))) (sab_cons (SE.sb (se_bltn (v := .ty "str") rfl (by rfl) h_str (by decide +kernel) rfl (fun _ => .ty _))) (sab_nil rfl))) h_isinstance))))))) (sss_one (ss_ret (se_bl rfl))) (sss_nil rfl))
    (sss_cons (ss_if (st_eq hu (SE.sb (se_ix (sb_var rfl (i := 0)) (SE.sb (se_int rfl)))) (SE.sb (se_str rfl))) (sss_one (ss_ret (se_call G_is_label (hr.mono (by decide)) hg_is_label tk_def (sa_cons (se_ix (sb_var rfl (i := 0)) (SE.sb (se_int rfl))) (sa_nil rfl))))) (sss_nil rfl))
    (sss_cons (ss_if (st_in hu (SE.sb (se_ix (sb_var rfl (i := 0)) (SE.sb (se_int rfl)))) (SE.sb (se_tup (sa_cons (se_str rfl) (sa_cons (se_str rfl) (sa_nil rfl)))))) (sss_one (ss_ret (se_call G_is_number (hr.mono (by decide)) hg_is_number tk_def (sa_cons (se_ix (sb_var rfl (i := 0)) (SE.sb (se_int rfl))) (sa_cons (se_int rfl) (sa_cons (se_glob rfl (by rfl) h_MOST_NUMBER.1 h_MOST_NUMBER.2 (fun _ => .int _)) (sa_nil rfl))))))) (sss_nil rfl))
    (sss_one (ss_ret (se_and (se_in hu (SE.sb (se_ix (sb_var rfl (i := 0)) (SE.sb (se_int rfl)))) (SE.sb (se_tup (sa_cons (se_str rfl) (sa_cons (se_str rfl) (sa_nil rfl)))))) (se_and1 (se_call G_is_number (hr.mono (by decide)) hg_is_number tk_def (sa_cons (se_ix (sb_var rfl (i := 0)) (SE.sb (se_int rfl))) (sa_cons (se_int rfl) (sa_cons (se_glob rfl (by rfl) h_MOST_NUMBER.1 h_MOST_NUMBER.2 (fun _ => .int _)) (sa_nil rfl)))))))))))))⟩
theorem sc_is_step : FnScope ["thing", "one"] ["thing"] (defScope (top 20)) := ⟨rfl, rfl, rfl, by decide +kernel, rfl, by decide +kernel, by decide +kernel⟩
theorem F_is_step (T : Fc P c w mg) (TB : ∀ p ∈ cds c.K tq, LamX.TabB base mg p.1 p.2) : ∃ ad, mg "is_step" = some (.ref ad) ∧ Fn c P w mg base 3 ad 1 m_is_step := by
  have h_tuple := T.g_tuple
  have h_isinstance := T.g_isinstance
  have h_len := T.g_len
  obtain ⟨_, h_MOST_POINTERS⟩ := T.g_MOST_POINTERS
  have h_all := T.g_all
  have hC := T.C
  obtain ⟨_, hg_is_label, G_is_label⟩ := F_is_label (P := P) (base := base) T TB
  obtain ⟨_, hg_is_pointer, G_is_pointer⟩ := F_is_pointer (P := P) (base := base) T TB
  obtain ⟨ad, fd, hmg, F⟩ := T.f_is_step
  exact ⟨_, hmg, fn_mk (k := 2) F sc_is_step (F.bindsN fun _ _ _ _ _ _ us hl => match us, hl with | [_], _ => rfl) (fun cdv A outer s H E hr => by
    have sc := sc_is_step
    have hu := hr.units
    have hu1 := hu_of hr
    exact (sss_cons (ss_if (SW.st (sw_or (st_not (st_val (se_isi (sab_cons (sb_var rfl (i := 0)) (sab_cons (SE.sb (se_bltn (v := .ty "tuple") rfl (by rfl) h_tuple boot_tuple rfl (fun _ => .ty _))) (sab_nil rfl))) h_isinstance))) (sw_or (st_ne hu (SE.sb (se_len (sab_cons (sb_var rfl (i := 0)) (sab_nil rfl)) h_len)) (SE.sb (se_int rfl))) (sw_or1 (st_not (SW.st (sw_or (st_isN (SE.sb (se_ix (sb_var rfl (i := 0)) (SE.sb (se_int rfl))))) (sw_or1 (st_val (se_call G_is_label (hr.mono (by decide)) hg_is_label tk_def (sa_cons (se_ix (sb_var rfl (i := 0)) (SE.sb (se_int rfl))) (sa_nil rfl)))))))))))) (sss_one (ss_ret (se_bl rfl))) (sss_nil rfl))
    (sss_cons (ss_if (SW.st (sw_or (st_not (st_val (se_isi (sab_cons (SE.sb (se_ix (sb_var rfl (i := 0)) (SE.sb (se_int rfl)))) (sab_cons (SE.sb (se_bltn (v := .ty "tuple") rfl (by rfl) h_tuple boot_tuple rfl (fun _ => .ty _))) (sab_nil rfl))) h_isinstance))) (sw_or1 (st_gt (SE.sb (se_len (sab_cons (SE.sb (se_ix (sb_var rfl (i := 0)) (SE.sb (se_int rfl)))) (sab_nil rfl)) h_len)) (SE.sb (se_glob rfl (by rfl) h_MOST_POINTERS.1 h_MOST_POINTERS.2 (fun _ => .int _))))))) (sss_one (ss_ret (se_bl rfl))) (sss_nil rfl))
    (sss_one (ss_ret (se_all (sab_cons (SE.sb (SN.se (sn_lc (own := [("one", 1)]) (t := (.one 1)) (SI.sic (si_seq (se_ix (sb_var rfl (i := 0)) (SE.sb (se_int rfl))))) sc.nd (blkOk_by (by kernel_rfl)) (by decide) (fun s H C cl fp => (sg_one (i := 1) sc.nd)) (fun s H C cl fp => sts_nil) (fun s H C cl fp => (se_call G_is_pointer (hr.mono (by decide)) hg_is_pointer tk_in (sa_cons (se_var rfl (i := 1)) (sa_nil rfl))))))) (sab_nil rfl)) h_all))))))⟩
theorem sc_are_rows : FnScope ["thing", "one"] ["thing"] (defScope (top 21)) := ⟨rfl, rfl, rfl, by decide +kernel, rfl, by decide +kernel, by decide +kernel⟩
theorem F_are_rows (T : Fc P c w mg) (TB : ∀ p ∈ cds c.K tq, LamX.TabB base mg p.1 p.2) : ∃ ad, mg "are_rows" = some (.ref ad) ∧ Fn c P w mg base 4 ad 1 m_are_rows := by
  have h_tuple := T.g_tuple
  have h_isinstance := T.g_isinstance
  have h_len := T.g_len
  obtain ⟨_, h_MOST_STEPS⟩ := T.g_MOST_STEPS
  have h_all := T.g_all
  have hC := T.C
  obtain ⟨_, hg_is_step, G_is_step⟩ := F_is_step (P := P) (base := base) T TB
  obtain ⟨ad, fd, hmg, F⟩ := T.f_are_rows
  exact ⟨_, hmg, fn_mk (k := 3) F sc_are_rows (F.bindsN fun _ _ _ _ _ _ us hl => match us, hl with | [_], _ => rfl) (fun cdv A outer s H E hr => by
    have sc := sc_are_rows
    have hu := hr.units
    have hu1 := hu_of hr
    exact (sss_one (ss_ret (se_and (se_isi (sab_cons (sb_var rfl (i := 0)) (sab_cons (SE.sb (se_bltn (v := .ty "tuple") rfl (by rfl) h_tuple boot_tuple rfl (fun _ => .ty _))) (sab_nil rfl))) h_isinstance) (se_and (se_le (SE.sb (se_len (sab_cons (sb_var rfl (i := 0)) (sab_nil rfl)) h_len)) (SE.sb (se_glob rfl (by rfl) h_MOST_STEPS.1 h_MOST_STEPS.2 (fun _ => .int _)))) (se_and1 (se_all (sab_cons (SE.sb (SN.se (sn_lc (own := [("one", 1)]) (t := (.one 1)) (SI.sic (si_seq (se_var rfl (i := 0)))) sc.nd (blkOk_by (by kernel_rfl)) (by decide) (fun s H C cl fp => (sg_one (i := 1) sc.nd)) (fun s H C cl fp => sts_nil) (fun s H C cl fp => (se_call G_is_step (hr.mono (by decide)) hg_is_step tk_in (sa_cons (se_var rfl (i := 1)) (sa_nil rfl))))))) (sab_nil rfl)) h_all)))))))⟩
theorem sc_is_edit : FnScope ["rows", "edit", "many", "numbers"] ["rows", "edit"] (defScope (top 32)) := ⟨rfl, rfl, rfl, by decide +kernel, rfl, by decide +kernel, by decide +kernel⟩
theorem F_is_edit (T : Fc P c w mg) (TB : ∀ p ∈ cds c.K tq, LamX.TabB base mg p.1 p.2) : ∃ ad, mg "is_edit" = some (.ref ad) ∧ Fn c P w mg base 5 ad 2 m_is_edit := by
  have h_tuple := T.g_tuple
  have h_isinstance := T.g_isinstance
  have h_len := T.g_len
  have h_str := T.g_str
  obtain ⟨_, h_MOST_STEPS⟩ := T.g_MOST_STEPS
  have hC := T.C
  obtain ⟨_, hg_are_rows, G_are_rows⟩ := F_are_rows (P := P) (base := base) T TB
  obtain ⟨_, hg_is_number, G_is_number⟩ := F_is_number (P := P) (base := base) T TB
  obtain ⟨ad, fd, hmg, F⟩ := T.f_is_edit
  exact ⟨_, hmg, fn_mk (k := 4) F sc_is_edit (F.bindsN fun _ _ _ _ _ _ us hl => match us, hl with | [_, _], _ => rfl) (fun cdv A outer s H E hr => by
    have sc := sc_is_edit
    have hu := hr.units
    have hu1 := hu_of hr
    exact (sss_cons (ss_if (SW.st (sw_or (st_not (st_val (se_isi (sab_cons (sb_var rfl (i := 1)) (sab_cons (SE.sb (se_bltn (v := .ty "tuple") rfl (by rfl) h_tuple boot_tuple rfl (fun _ => .ty _))) (sab_nil rfl))) h_isinstance))) (sw_or (st_lt (SE.sb (se_len (sab_cons (sb_var rfl (i := 1)) (sab_nil rfl)) h_len)) (SE.sb (se_int rfl))) (sw_or1 (st_not (st_val (se_isi (sab_cons (SE.sb (se_ix (sb_var rfl (i := 1)) (SE.sb (se_int rfl)))) (sab_cons (SE.sb (se_bltn (v := .ty "str") rfl (by rfl) h_str (by decide +kernel) rfl (fun _ => .ty _))) (sab_nil rfl))) h_isinstance))))))) (sss_one (ss_ret (se_bl rfl))) (sss_nil rfl))
    (sss_cons (ss_parS (i := 2) (j := 3) (sam_val (se_len (sab_cons (sb_var rfl (i := 0)) (sab_nil rfl)) h_len) (sam_val (se_sliceT (sb_var rfl (i := 1)) (so_some (SE.sb (se_int rfl))) (so_none rfl)) (sam_nil rfl))) sc.nd)
    (sss_cons (ss_if (st_eq hu (SE.sb (se_ix (sb_var rfl (i := 1)) (SE.sb (se_int rfl)))) (SE.sb (se_str rfl))) (sss_one (ss_ret (se_and (se_eq hu (SE.sb (se_len (sab_cons (sb_var rfl (i := 1)) (sab_nil rfl)) h_len)) (SE.sb (se_int rfl))) (se_and (se_call G_are_rows (hr.mono (by decide)) hg_are_rows tk_def (sa_cons (se_ix (sb_var rfl (i := 1)) (SE.sb (se_int rfl))) (sa_nil rfl))) (se_and1 (se_le (SE.sb (se_add (sb_var rfl (i := 2)) (SE.sb (se_len (sab_cons (SE.sb (se_ix (sb_var rfl (i := 1)) (SE.sb (se_int rfl)))) (sab_nil rfl)) h_len)))) (SE.sb (se_glob rfl (by rfl) h_MOST_STEPS.1 h_MOST_STEPS.2 (fun _ => .int _))))))))) (sss_nil rfl))
    (sss_cons (ss_if (st_eq hu (SE.sb (se_ix (sb_var rfl (i := 1)) (SE.sb (se_int rfl)))) (SE.sb (se_str rfl))) (sss_one (ss_ret (se_and (se_eq hu (SE.sb (se_len (sab_cons (sb_var rfl (i := 1)) (sab_nil rfl)) h_len)) (SE.sb (se_int rfl))) (se_and (se_lt (sb_var rfl (i := 2)) (SE.sb (se_glob rfl (by rfl) h_MOST_STEPS.1 h_MOST_STEPS.2 (fun _ => .int _)))) (se_and1 (se_call G_is_number (hr.mono (by decide)) hg_is_number tk_def (sa_cons (se_ix (sb_var rfl (i := 1)) (SE.sb (se_int rfl))) (sa_cons (se_int rfl) (sa_cons (se_var rfl (i := 2)) (sa_nil rfl)))))))))) (sss_nil rfl))
    (sss_cons (ss_if (st_eq hu (SE.sb (se_ix (sb_var rfl (i := 1)) (SE.sb (se_int rfl)))) (SE.sb (se_str rfl))) (sss_one (ss_ret (se_and (se_eq hu (SE.sb (se_len (sab_cons (sb_var rfl (i := 1)) (sab_nil rfl)) h_len)) (SE.sb (se_int rfl))) (se_and1 (se_call G_is_number (hr.mono (by decide)) hg_is_number tk_def (sa_cons (se_ix (sb_var rfl (i := 1)) (SE.sb (se_int rfl))) (sa_cons (se_int rfl) (sa_cons (se_sub (sb_var rfl (i := 2)) (SE.sb (se_int rfl))) (sa_nil rfl))))))))) (sss_nil rfl))
    (sss_cons (ss_if (SW.st (sw_or (st_ne hu (SE.sb (se_len (sab_cons (sb_var rfl (i := 1)) (sab_nil rfl)) h_len)) (SE.sb (se_int rfl))) (sw_or1 (st_not (st_val (se_call G_is_number (hr.mono (by decide)) hg_is_number tk_def (sa_cons (se_ix (sb_var rfl (i := 1)) (SE.sb (se_int rfl))) (sa_cons (se_int rfl) (sa_cons (se_sub (sb_var rfl (i := 2)) (SE.sb (se_int rfl))) (sa_nil rfl)))))))))) (sss_one (ss_ret (se_bl rfl))) (sss_nil rfl))
    (sss_cons (ss_if (st_eq hu (SE.sb (se_ix (sb_var rfl (i := 1)) (SE.sb (se_int rfl)))) (SE.sb (se_str rfl))) (sss_one (ss_ret (se_and (se_call G_is_number (hr.mono (by decide)) hg_is_number tk_def (sa_cons (se_ix (sb_var rfl (i := 1)) (SE.sb (se_int rfl))) (sa_cons (se_int rfl) (sa_cons (se_sub (sb_var rfl (i := 2)) (SE.sb (se_int rfl))) (sa_nil rfl))))) (se_and1 (se_ne hu (SE.sb (se_ix (sb_var rfl (i := 1)) (SE.sb (se_int rfl)))) (SE.sb (se_ix (sb_var rfl (i := 1)) (SE.sb (se_int rfl))))))))) (sss_nil rfl))
    (sss_one (ss_ret (se_and (se_eq hu (SE.sb (se_ix (sb_var rfl (i := 1)) (SE.sb (se_int rfl)))) (SE.sb (se_str rfl))) (se_and (se_lt (sb_var rfl (i := 2)) (SE.sb (se_glob rfl (by rfl) h_MOST_STEPS.1 h_MOST_STEPS.2 (fun _ => .int _)))) (se_and1 (se_call G_is_number (hr.mono (by decide)) hg_is_number tk_def (sa_cons (se_ix (sb_var rfl (i := 3)) (SE.sb (se_int rfl))) (sa_cons (se_int rfl) (sa_cons (se_var rfl (i := 2)) (sa_nil rfl))))))))))))))))))⟩
theorem sc_many_after : FnScope ["many", "edit"] ["many", "edit"] (defScope (top 51)) := ⟨rfl, rfl, rfl, by decide +kernel, rfl, by decide +kernel, by decide +kernel⟩
theorem F_many_after (T : Fc P c w mg) (TB : ∀ p ∈ cds c.K tq, LamX.TabB base mg p.1 p.2) : ∃ ad, mg "many_after" = some (.ref ad) ∧ Fn c P w mg base 6 ad 2 m_many_after := by
  have h_PLAIN := T.g_PLAIN
  have hC := T.C
  obtain ⟨_, hg_is_edit, G_is_edit⟩ := F_is_edit (P := P) (base := base) T TB
  obtain ⟨ad, fd, hmg, F⟩ := T.f_many_after
  exact ⟨_, hmg, fn_mk (k := 5) F sc_many_after (F.bindsN fun _ _ _ _ _ _ us hl => match us, hl with | [_, _], _ => rfl) (fun cdv A outer s H E hr => by
    have sc := sc_many_after
    have hu := hr.units
    have hu1 := hu_of hr
    exact (sss_cons (ss_if (SW.st (sw_or (st_not (st_val (se_call G_is_edit (hr.mono (by decide)) hg_is_edit tk_def (sa_cons (se_mul (SE.sb (se_tup (sa_cons (se_cst h_PLAIN rfl) (sa_nil rfl)))) (sb_var rfl (i := 0))) (sa_cons (se_var rfl (i := 1)) (sa_nil rfl)))))) (sw_or1 (st_eq hu (SE.sb (se_ix (sb_var rfl (i := 1)) (SE.sb (se_int rfl)))) (SE.sb (se_str rfl)))))) (sss_one (ss_ret (se_non rfl))) (sss_nil rfl))
    (sss_cons (ss_if (st_in hu (SE.sb (se_ix (sb_var rfl (i := 1)) (SE.sb (se_int rfl)))) (SE.sb (se_tup (sa_cons (se_str rfl) (sa_cons (se_str rfl) (sa_nil rfl)))))) (sss_one (ss_ret (se_add (sb_var rfl (i := 0)) (SE.sb (se_int rfl))))) (sss_nil rfl))
    (sss_one (ss_ret (se_if (st_eq hu (SE.sb (se_ix (sb_var rfl (i := 1)) (SE.sb (se_int rfl)))) (SE.sb (se_str rfl))) (se_sub (sb_var rfl (i := 0)) (SE.sb (se_int rfl))) (se_var rfl (i := 0))))))))⟩
theorem sc_counts_along : FnScope ["many", "edits", "found", "index", "edit", "later"] ["many", "edits"] (defScope (top 52)) := ⟨rfl, rfl, rfl, by decide +kernel, rfl, by decide +kernel, by decide +kernel⟩
theorem F_counts_along (T : Fc P c w mg) (TB : ∀ p ∈ cds c.K tq, LamX.TabB base mg p.1 p.2) : ∃ ad, mg "counts_along" = some (.ref ad) ∧ Fn c P w mg base 7 ad 2 m_counts_along := by
  have h_enumerate := T.g_enumerate
  obtain ⟨hxi_BadEdits, _, _, _, _, _, _, _, xE_BadEdits⟩ := T.xi_BadEdits
  have hC := T.C
  obtain ⟨_, hg_many_after, G_many_after⟩ := F_many_after (P := P) (base := base) T TB
  obtain ⟨ad, fd, hmg, F⟩ := T.f_counts_along
  exact ⟨_, hmg, fn_mk (k := 6) F sc_counts_along (F.bindsN fun _ _ _ _ _ _ us hl => match us, hl with | [_, _], _ => rfl) (fun cdv A outer s H E hr => by
    have sc := sc_counts_along
    have hu := hr.units
    have hu1 := hu_of hr
    exact (sss_cons (ss_setN (i := 2) (sn_lst (sa_cons (se_var rfl (i := 0)) (sa_nil rfl))) sc.nd)
    (sss_cons (ss_for (t := (.tup [3, 4])) (si_enum (se_var rfl (i := 1)) h_enumerate) (sg_tup (sgs_cons (i := 3) (sgs_cons (i := 4) sgs_nil sc.nd) sc.nd)) (sss_cons (ss_set (i := 5) (se_call G_many_after (hr.mono (by decide)) hg_many_after tk_def (sa_cons (se_ix (sb_var rfl (i := 2)) (SE.sb (se_neg (se_int rfl)))) (sa_cons (se_var rfl (i := 4)) (sa_nil rfl)))) sc.nd)
    (sss_cons (ss_if (st_isN (sb_var rfl (i := 5))) (sss_one (ss_raiseF xE_BadEdits (hr.mono (by decide)) hxi_BadEdits tk_def (sa_cons (se_var rfl (i := 3)) (sa_nil rfl)))) (sss_nil rfl))
    (sss_one (ss_append (i := 2) (se_var rfl (i := 5)))))) pa_def)
    (sss_one (ss_frz [2] (ss_ret (se_var rfl (i := 2))))))))⟩
theorem sc_Edits_init : FnScope ["self", "many", "acts"] ["self", "many", "acts"] (defScope (inClass (top 56) 1)) := ⟨rfl, rfl, rfl, by decide +kernel, rfl, by decide +kernel, by decide +kernel⟩
theorem F_Edits_init (T : Fc P c w mg) (TB : ∀ p ∈ cds c.K tq, LamX.TabB base mg p.1 p.2) : ∃ ad fd, Mk c.K (c.cls 0) ad ∧ FnOk P w c.K mg base (L2.CX P w) 8 ad fd ["self", "many", "acts"] (PromI c 2 0 m_Edits_init) ∧ Binds c.K fd ["self", "many", "acts"] [] := by
  obtain ⟨_, h_MOST_STEPS⟩ := T.g_MOST_STEPS
  have h_tuple := T.g_tuple
  have h_isinstance := T.g_isinstance
  obtain ⟨hxi_BadEdits, _, _, _, _, _, _, _, xE_BadEdits⟩ := T.xi_BadEdits
  obtain ⟨_, hs_Edits_counts⟩ := T.s_Edits_counts
  obtain ⟨_, hs_Edits_own_many⟩ := T.s_Edits_own_many
  obtain ⟨_, hs_Edits_own_acts⟩ := T.s_Edits_own_acts
  have hC := T.C
  obtain ⟨_, hg_is_number, G_is_number⟩ := F_is_number (P := P) (base := base) T TB
  obtain ⟨_, hg_counts_along, G_counts_along⟩ := F_counts_along (P := P) (base := base) T TB
  obtain ⟨ad, fd, hM, F⟩ := T.f_Edits_init
  exact ⟨ad, fd, hM, initOk_mk (k := 7) F sc_Edits_init rfl (by decide) (fun cdv A outer s H E hr => by
    have sc := sc_Edits_init
    have hu := hr.units
    have hu1 := hu_of hr
    exact (sss_cons (ss_if (SW.st (sw_or (st_not (st_val (se_call G_is_number (hr.mono (by decide)) hg_is_number tk_def (sa_cons (se_var rfl (i := 1)) (sa_cons (se_int rfl) (sa_cons (se_glob rfl (by rfl) h_MOST_STEPS.1 h_MOST_STEPS.2 (fun _ => .int _)) (sa_nil rfl))))))) (sw_or1 (st_not (st_val (se_isi (sab_cons (sb_var rfl (i := 2)) (sab_cons (SE.sb (se_bltn (v := .ty "tuple") rfl (by rfl) h_tuple boot_tuple rfl (fun _ => .ty _))) (sab_nil rfl))) h_isinstance)))))) (sss_one (ss_raiseF xE_BadEdits (hr.mono (by decide)) hxi_BadEdits tk_def (sa_cons (se_non rfl) (sa_nil rfl)))) (sss_nil rfl))
    (sss_cons (ss_self (k := 0) (i := 0) (se_call G_counts_along (hr.mono (by decide)) hg_counts_along tk_def (sa_cons (se_var rfl (i := 1)) (sa_cons (se_var rfl (i := 2)) (sa_nil rfl)))) (hC.sc 0 (by decide)) hs_Edits_counts)
    (sss_cons (ss_self (k := 0) (i := 2) (se_var rfl (i := 1)) (hC.sc 0 (by decide)) hs_Edits_own_many)
    (sss_one (ss_self (k := 0) (i := 1) (se_var rfl (i := 2)) (hC.sc 0 (by decide)) hs_Edits_own_acts)))))), (F.bindsN fun _ _ _ _ _ _ us hl => match us, hl with | [_, _, _], _ => rfl)⟩
theorem sc__law_made_row : FnScope ["_law_call", "_law_row", "error"] ["_law_call"] (defScope (top 72)) := ⟨rfl, rfl, rfl, by decide +kernel, rfl, by decide +kernel, by decide +kernel⟩
theorem F__law_made_row (T : Fc P c w mg) : ∃ ad fd, mg "_law_made_row" = some (.ref ad) ∧ FunD c.K "_law_made_row" "_law_made_row" (defArgs (top 72)) (defBody (top 72)) (defScope (top 72)) [] [] ad fd ∧ Binds c.K fd ["_law_call"] [] := by
  obtain ⟨ad, fd, hmg, F⟩ := T.f__law_made_row
  exact ⟨ad, fd, hmg, F, (F.bindsN fun _ _ _ _ _ _ us hl => match us, hl with | [_], _ => rfl)⟩
theorem sc_Edits_many : FnScope ["self"] ["self"] (defScope (inClass (top 56) 3)) := ⟨rfl, rfl, rfl, by decide +kernel, rfl, by decide +kernel, by decide +kernel⟩
theorem F_Edits_many (T : Fc P c w mg) (TB : ∀ p ∈ cds c.K tq, LamX.TabB base mg p.1 p.2) : ∃ p ad, Prp c.K (c.cls 0) "many" p ad ∧ Fn c P w mg base 1 ad 1 m_Edits_many := by
  obtain ⟨_, hs_Edits_own_many⟩ := T.s_Edits_own_many
  have hC := T.C
  obtain ⟨p, ad, fd, hP, F⟩ := T.f_Edits_many
  exact ⟨p, ad, hP, fn_mk (k := 0) F sc_Edits_many (F.bindsN fun _ _ _ _ _ _ us hl => match us, hl with | [_], _ => rfl) (fun cdv A outer s H E hr => by
    have sc := sc_Edits_many
    have hu := hr.units
    have hu1 := hu_of hr
    exact (sss_one (ss_ret (se_attr (k := 0) (i := 2) (se_var rfl (i := 0)) (hC.sc 0 (by decide)) hs_Edits_own_many))))⟩
theorem sc_gap_over : FnScope ["other", "gap", "behind", "spot"] ["other", "gap", "behind"] (defScope (top 45)) := ⟨rfl, rfl, rfl, by decide +kernel, rfl, by decide +kernel, by decide +kernel⟩
theorem F_gap_over (T : Fc P c w mg) (TB : ∀ p ∈ cds c.K tq, LamX.TabB base mg p.1 p.2) : ∃ ad, mg "gap_over" = some (.ref ad) ∧ ∀ fu : Nat, Fn c P w mg base (1 + fu) ad 3 (m_gap_over fu) := by
  have hC := T.C
  obtain ⟨ad, fd, hmg, F⟩ := T.f_gap_over
  have hb : Binds c.K fd ["other", "gap", "behind"] [] := (F.bindsN fun _ _ _ _ _ _ us hl => match us, hl with | [_, _, _], _ => rfl)
  refine ⟨ad, hmg, fun fu => ?_⟩
  induction fu with
  | zero => exact ⟨fun A outer s H us vs Q E hr e0 r ⟨_, _, _, _, _, _, q⟩ => q.elim, F.kp⟩
  | succ fu ih =>
    refine fn_mk (k := 1 + fu) F sc_gap_over hb fun cdv A outer s H E hr => by
      have sc := sc_gap_over
      have hu := hr.units
      have hu1 := hu_of hr
      exact (sss_cons (ss_if (st_eq hu (SE.sb (se_ix (sb_var rfl (i := 0)) (SE.sb (se_int rfl)))) (SE.sb (se_str rfl))) (sss_one (ss_ret (se_call ih (hr.mono (by omega)) hmg tk_def (sa_cons (se_tup (sa_cons (se_str rfl) (sa_cons (se_ix (sb_var rfl (i := 0)) (SE.sb (se_int rfl))) (sa_nil rfl)))) (sa_cons (se_call ih (hr.mono (by omega)) hmg tk_def (sa_cons (se_tup (sa_cons (se_str rfl) (sa_cons (se_ix (sb_var rfl (i := 0)) (SE.sb (se_int rfl))) (sa_nil rfl)))) (sa_cons (se_var rfl (i := 1)) (sa_cons (se_var rfl (i := 2)) (sa_nil rfl))))) (sa_cons (se_var rfl (i := 2)) (sa_nil rfl))))))) (sss_nil rfl))
      (sss_cons (ss_set (i := 3) (se_ix (sb_var rfl (i := 0)) (SE.sb (se_neg (se_int rfl)))) sc.nd)
      (sss_cons (ss_if (st_eq hu (SE.sb (se_ix (sb_var rfl (i := 0)) (SE.sb (se_int rfl)))) (SE.sb (se_str rfl))) (sss_one (ss_ret (se_if (st_gt (sb_var rfl (i := 1)) (sb_var rfl (i := 3))) (se_sub (sb_var rfl (i := 1)) (SE.sb (se_int rfl))) (se_var rfl (i := 1))))) (sss_nil rfl))
      (sss_one (ss_ret (se_if (SW.st (sw_or (st_gt (sb_var rfl (i := 1)) (sb_var rfl (i := 3))) (sw_or1 (SW.st (sw_and (st_eq hu (sb_var rfl (i := 1)) (sb_var rfl (i := 3))) (sw_and1 (st_val (se_var rfl (i := 2))))))))) (se_add (sb_var rfl (i := 1)) (SE.sb (se_int rfl))) (se_var rfl (i := 1))))))))
theorem sc_step_over : FnScope ["other", "at", "spot"] ["other", "at"] (defScope (top 46)) := ⟨rfl, rfl, rfl, by decide +kernel, rfl, by decide +kernel, by decide +kernel⟩
theorem F_step_over (T : Fc P c w mg) (TB : ∀ p ∈ cds c.K tq, LamX.TabB base mg p.1 p.2) : ∃ ad, mg "step_over" = some (.ref ad) ∧ Fn c P w mg base 1 ad 2 m_step_over := by
  have hC := T.C
  obtain ⟨ad, fd, hmg, F⟩ := T.f_step_over
  exact ⟨_, hmg, fn_mk (k := 0) F sc_step_over (F.bindsN fun _ _ _ _ _ _ us hl => match us, hl with | [_, _], _ => rfl) (fun cdv A outer s H E hr => by
    have sc := sc_step_over
    have hu := hr.units
    have hu1 := hu_of hr
    exact (sss_cons (ss_set (i := 2) (se_ix (sb_var rfl (i := 0)) (SE.sb (se_neg (se_int rfl)))) sc.nd)
    (sss_cons (ss_if (st_eq hu (SE.sb (se_ix (sb_var rfl (i := 0)) (SE.sb (se_int rfl)))) (SE.sb (se_str rfl))) (sss_cons (ss_if (st_eq hu (sb_var rfl (i := 1)) (sb_var rfl (i := 2))) (sss_one (ss_ret (se_non rfl))) (sss_nil rfl))
    (sss_one (ss_ret (se_if (st_gt (sb_var rfl (i := 1)) (sb_var rfl (i := 2))) (se_sub (sb_var rfl (i := 1)) (SE.sb (se_int rfl))) (se_var rfl (i := 1)))))) (sss_nil rfl))
    (sss_cons (ss_if (st_eq hu (SE.sb (se_ix (sb_var rfl (i := 0)) (SE.sb (se_int rfl)))) (SE.sb (se_str rfl))) (sss_cons (ss_if (st_eq hu (sb_var rfl (i := 1)) (SE.sb (se_ix (sb_var rfl (i := 0)) (SE.sb (se_int rfl))))) (sss_one (ss_ret (se_var rfl (i := 2)))) (sss_nil rfl))
    (sss_one (ss_set (i := 1) (se_if (st_gt (sb_var rfl (i := 1)) (SE.sb (se_ix (sb_var rfl (i := 0)) (SE.sb (se_int rfl))))) (se_sub (sb_var rfl (i := 1)) (SE.sb (se_int rfl))) (se_var rfl (i := 1))) sc.nd))) (sss_nil rfl))
    (sss_one (ss_ret (se_if (st_ge (sb_var rfl (i := 1)) (sb_var rfl (i := 2))) (se_add (sb_var rfl (i := 1)) (SE.sb (se_int rfl))) (se_var rfl (i := 1)))))))))⟩
theorem sc_move_over : FnScope ["edit", "other", "behind", "at", "gap", "spot"] ["edit", "other", "behind"] (defScope (top 47)) := ⟨rfl, rfl, rfl, by decide +kernel, rfl, by decide +kernel, by decide +kernel⟩
theorem F_move_over (T : Fc P c w mg) (TB : ∀ p ∈ cds c.K tq, LamX.TabB base mg p.1 p.2) : ∃ ad, mg "move_over" = some (.ref ad) ∧ Fn c P w mg base 4 ad 3 m_move_over := by
  have hC := T.C
  obtain ⟨_, hg_step_over, G_step_over⟩ := F_step_over (P := P) (base := base) T TB
  obtain ⟨_, hg_gap_over, G_gap_over⟩ := F_gap_over (P := P) (base := base) T TB
  obtain ⟨ad, fd, hmg, F⟩ := T.f_move_over
  exact ⟨_, hmg, fn_mk (k := 3) F sc_move_over (F.bindsN fun _ _ _ _ _ _ us hl => match us, hl with | [_, _, _], _ => rfl) (fun cdv A outer s H E hr => by
    have sc := sc_move_over
    have hu := hr.units
    have hu1 := hu_of hr
    exact (sss_cons (ss_set (i := 3) (se_call G_step_over (hr.mono (by decide)) hg_step_over tk_def (sa_cons (se_var rfl (i := 1)) (sa_cons (se_ix (sb_var rfl (i := 0)) (SE.sb (se_int rfl))) (sa_nil rfl)))) sc.nd)
    (sss_cons (ss_if (st_isN (sb_var rfl (i := 3))) (sss_one (ss_ret (se_non rfl))) (sss_nil rfl))
    (sss_cons (ss_set (i := 4) (se_call (G_gap_over 2) (hr.mono (by decide)) hg_gap_over tk_def (sa_cons (se_var rfl (i := 1)) (sa_cons (se_if (st_lt (SE.sb (se_ix (sb_var rfl (i := 0)) (SE.sb (se_int rfl)))) (SE.sb (se_ix (sb_var rfl (i := 0)) (SE.sb (se_int rfl))))) (se_ix (sb_var rfl (i := 0)) (SE.sb (se_int rfl))) (se_add (SE.sb (se_ix (sb_var rfl (i := 0)) (SE.sb (se_int rfl)))) (SE.sb (se_int rfl)))) (sa_cons (se_var rfl (i := 2)) (sa_nil rfl))))) sc.nd)
    (sss_cons (ss_set (i := 5) (se_if (st_le (sb_var rfl (i := 4)) (sb_var rfl (i := 3))) (se_var rfl (i := 4)) (se_sub (sb_var rfl (i := 4)) (SE.sb (se_int rfl)))) sc.nd)
    (sss_one (ss_ret (se_if (st_eq hu (sb_var rfl (i := 5)) (sb_var rfl (i := 3))) (se_non rfl) (se_tup (sa_cons (se_str rfl) (sa_cons (se_var rfl (i := 3)) (sa_cons (se_var rfl (i := 5)) (sa_nil rfl)))))))))))))⟩
theorem sc_over : FnScope ["edit", "other", "behind", "at"] ["edit", "other", "behind"] (defScope (top 48)) := ⟨rfl, rfl, rfl, by decide +kernel, rfl, by decide +kernel, by decide +kernel⟩
theorem F_over (T : Fc P c w mg) (TB : ∀ p ∈ cds c.K tq, LamX.TabB base mg p.1 p.2) : ∃ ad, mg "over" = some (.ref ad) ∧ Fn c P w mg base 5 ad 3 m_over := by
  have hC := T.C
  obtain ⟨_, hg_gap_over, G_gap_over⟩ := F_gap_over (P := P) (base := base) T TB
  obtain ⟨_, hg_move_over, G_move_over⟩ := F_move_over (P := P) (base := base) T TB
  obtain ⟨_, hg_step_over, G_step_over⟩ := F_step_over (P := P) (base := base) T TB
  obtain ⟨ad, fd, hmg, F⟩ := T.f_over
  exact ⟨_, hmg, fn_mk (k := 4) F sc_over (F.bindsN fun _ _ _ _ _ _ us hl => match us, hl with | [_, _, _], _ => rfl) (fun cdv A outer s H E hr => by
    have sc := sc_over
    have hu := hr.units
    have hu1 := hu_of hr
    exact (sss_cons (ss_if (SW.st (sw_or (st_isN (sb_var rfl (i := 0))) (sw_or1 (st_isN (sb_var rfl (i := 1)))))) (sss_one (ss_ret (se_var rfl (i := 0)))) (sss_nil rfl))
    (sss_cons (ss_if (st_eq hu (SE.sb (se_ix (sb_var rfl (i := 0)) (SE.sb (se_int rfl)))) (SE.sb (se_str rfl))) (sss_one (ss_ret (se_tup (sa_cons (se_str rfl) (sa_cons (se_call (G_gap_over 2) (hr.mono (by decide)) hg_gap_over tk_def (sa_cons (se_var rfl (i := 1)) (sa_cons (se_ix (sb_var rfl (i := 0)) (SE.sb (se_int rfl))) (sa_cons (se_var rfl (i := 2)) (sa_nil rfl))))) (sa_nil rfl)))))) (sss_nil rfl))
    (sss_cons (ss_if (st_eq hu (SE.sb (se_ix (sb_var rfl (i := 0)) (SE.sb (se_int rfl)))) (SE.sb (se_str rfl))) (sss_one (ss_ret (se_call G_move_over (hr.mono (by decide)) hg_move_over tk_def (sa_cons (se_var rfl (i := 0)) (sa_cons (se_var rfl (i := 1)) (sa_cons (se_var rfl (i := 2)) (sa_nil rfl))))))) (sss_nil rfl))
    (sss_cons (ss_set (i := 3) (se_call G_step_over (hr.mono (by decide)) hg_step_over tk_def (sa_cons (se_var rfl (i := 1)) (sa_cons (se_ix (sb_var rfl (i := 0)) (SE.sb (se_int rfl))) (sa_nil rfl)))) sc.nd)
    (sss_cons (ss_if (st_isN (sb_var rfl (i := 3))) (sss_one (ss_ret (se_non rfl))) (sss_nil rfl))
    (sss_one (ss_ret (se_if (st_eq hu (SE.sb (se_ix (sb_var rfl (i := 0)) (SE.sb (se_int rfl)))) (SE.sb (se_str rfl))) (se_tup (sa_cons (se_str rfl) (sa_cons (se_var rfl (i := 3)) (sa_nil rfl)))) (se_tup (sa_cons (se_str rfl) (sa_cons (se_var rfl (i := 3)) (sa_cons (se_call (G_gap_over 2) (hr.mono (by decide)) hg_gap_over tk_def (sa_cons (se_var rfl (i := 1)) (sa_cons (se_ix (sb_var rfl (i := 0)) (SE.sb (se_int rfl))) (sa_cons (se_var rfl (i := 2)) (sa_nil rfl))))) (sa_nil rfl))))))))))))))⟩
theorem sc_carried_row : FnScope ["edits", "others", "edit", "found", "rest", "late", "other"] ["edits", "others"] (defScope (top 54)) := ⟨rfl, rfl, rfl, by decide +kernel, rfl, by decide +kernel, by decide +kernel⟩
theorem F_carried_row (T : Fc P c w mg) (TB : ∀ p ∈ cds c.K tq, LamX.TabB base mg p.1 p.2) : ∃ ad, mg "carried_row" = some (.ref ad) ∧ Fn c P w mg base 6 ad 2 m_carried_row := by
  have hC := T.C
  obtain ⟨_, hg_over, G_over⟩ := F_over (P := P) (base := base) T TB
  obtain ⟨ad, fd, hmg, F⟩ := T.f_carried_row
  exact ⟨_, hmg, fn_mk (k := 5) F sc_carried_row (F.bindsN fun _ _ _ _ _ _ us hl => match us, hl with | [_, _], _ => rfl) (fun cdv A outer s H E hr => by
    have sc := sc_carried_row
    have hu := hr.units
    have hu1 := hu_of hr
    exact (sss_cons (ss_parS (i := 3) (j := 4) (sam_own (sn_lst (sa_nil rfl)) (sam_own (sn_lst (sa_star (sb_var rfl (i := 1)) (sa_nil rfl))) (sam_nil rfl))) sc.nd)
    (sss_cons (ss_for (t := (.one 2)) (si_seq (se_var rfl (i := 0))) (sg_one (i := 2) sc.nd) (sss_cons (ss_setN (i := 5) (sn_lst (sa_nil rfl)) sc.nd)
    (sss_cons (ss_frz [4] (ss_for (t := (.one 6)) (si_seq (se_var rfl (i := 4))) (sg_one (i := 6) sc.nd) (sss_cons (ss_setN (i := 5) (sn_lst (sa_star (sb_var rfl (i := 5)) (sa_cons (se_call G_over (hr.mono (by decide)) hg_over tk_def (sa_cons (se_var rfl (i := 6)) (sa_cons (se_var rfl (i := 2)) (sa_cons (se_bl rfl) (sa_nil rfl))))) (sa_nil rfl)))) sc.nd)
    (sss_one (ss_set (i := 2) (se_call G_over (hr.mono (by decide)) hg_over tk_def (sa_cons (se_var rfl (i := 2)) (sa_cons (se_var rfl (i := 6)) (sa_cons (se_bl rfl) (sa_nil rfl))))) sc.nd))) pa_def))
    (sss_cons (ss_frz [5] (ss_set (i := 4) (se_var rfl (i := 5)) sc.nd))
    (sss_one (ss_setN (i := 3) (sn_lst (sa_star (sb_var rfl (i := 3)) (sa_cons (se_var rfl (i := 2)) (sa_nil rfl)))) sc.nd))))) pa_def)
    (sss_one (ss_ret (se_tup (sa_cons (SN.se (sn_lc (own := [("edit", 2)]) (t := (.one 2)) (sic_own (sb_var rfl (i := 3))) sc.nd (blkOk_by (by kernel_rfl)) (by decide) (fun s H C cl fp => (sg_one (i := 2) sc.nd)) (fun s H C cl fp => (sts_one (st_notN (sb_var rfl (i := 2))))) (fun s H C cl fp => (se_var rfl (i := 2))))) (sa_cons (SN.se (sn_lc (own := [("other", 6)]) (t := (.one 6)) (sic_own (sb_var rfl (i := 4))) sc.nd (blkOk_by (by kernel_rfl)) (by decide) (fun s H C cl fp => (sg_one (i := 6) sc.nd)) (fun s H C cl fp => (sts_one (st_notN (sb_var rfl (i := 6))))) (fun s H C cl fp => (se_var rfl (i := 6))))) (sa_nil rfl)))))))))⟩
theorem sc_Edits_acts : FnScope ["self"] ["self"] (defScope (inClass (top 56) 4)) := ⟨rfl, rfl, rfl, by decide +kernel, rfl, by decide +kernel, by decide +kernel⟩
theorem F_Edits_acts (T : Fc P c w mg) (TB : ∀ p ∈ cds c.K tq, LamX.TabB base mg p.1 p.2) : ∃ p ad, Prp c.K (c.cls 0) "acts" p ad ∧ Fn c P w mg base 1 ad 1 m_Edits_acts := by
  obtain ⟨_, hs_Edits_own_acts⟩ := T.s_Edits_own_acts
  have hC := T.C
  obtain ⟨p, ad, fd, hP, F⟩ := T.f_Edits_acts
  exact ⟨p, ad, hP, fn_mk (k := 0) F sc_Edits_acts (F.bindsN fun _ _ _ _ _ _ us hl => match us, hl with | [_], _ => rfl) (fun cdv A outer s H E hr => by
    have sc := sc_Edits_acts
    have hu := hr.units
    have hu1 := hu_of hr
    exact (sss_one (ss_ret (se_attr (k := 0) (i := 1) (se_var rfl (i := 0)) (hC.sc 0 (by decide)) hs_Edits_own_acts))))⟩
theorem sc_Edits_abs : FnScope ["self"] ["self"] (defScope (inClass (top 56) 6)) := ⟨rfl, rfl, rfl, by decide +kernel, rfl, by decide +kernel, by decide +kernel⟩
theorem F_Edits_abs (T : Fc P c w mg) (TB : ∀ p ∈ cds c.K tq, LamX.TabB base mg p.1 p.2) : ∃ ad, Meth c.K (c.cls 0) "__abs__" ad ∧ Fn c P w mg base 1 ad 1 m_Edits_abs := by
  obtain ⟨_, hs_Edits_counts⟩ := T.s_Edits_counts
  have hC := T.C
  obtain ⟨ad, fd, hmg, F⟩ := T.f_Edits_abs
  exact ⟨_, hmg, fn_mk (k := 0) F sc_Edits_abs (F.bindsN fun _ _ _ _ _ _ us hl => match us, hl with | [_], _ => rfl) (fun cdv A outer s H E hr => by
    have sc := sc_Edits_abs
    have hu := hr.units
    have hu1 := hu_of hr
    exact (sss_one (ss_ret (se_ix (SE.sb (se_attr (k := 0) (i := 0) (se_var rfl (i := 0)) (hC.sc 0 (by decide)) hs_Edits_counts)) (SE.sb (se_neg (se_int rfl)))))))⟩
theorem sc_can_do : FnScope ["many", "edits", "edit"] ["many", "edits"] (defScope (top 53)) := ⟨rfl, rfl, rfl, by decide +kernel, rfl, by decide +kernel, by decide +kernel⟩
theorem F_can_do (T : Fc P c w mg) (TB : ∀ p ∈ cds c.K tq, LamX.TabB base mg p.1 p.2) : ∃ ad, mg "can_do" = some (.ref ad) ∧ Fn c P w mg base 7 ad 2 m_can_do := by
  have hC := T.C
  obtain ⟨_, hg_many_after, G_many_after⟩ := F_many_after (P := P) (base := base) T TB
  obtain ⟨ad, fd, hmg, F⟩ := T.f_can_do
  exact ⟨_, hmg, fn_mk (k := 6) F sc_can_do (F.bindsN fun _ _ _ _ _ _ us hl => match us, hl with | [_, _], _ => rfl) (fun cdv A outer s H E hr => by
    have sc := sc_can_do
    have hu := hr.units
    have hu1 := hu_of hr
    exact (sss_cons (ss_for (t := (.one 2)) (si_seq (se_var rfl (i := 1))) (sg_one (i := 2) sc.nd) (sss_cons (ss_set (i := 0) (se_call G_many_after (hr.mono (by decide)) hg_many_after tk_def (sa_cons (se_var rfl (i := 0)) (sa_cons (se_var rfl (i := 2)) (sa_nil rfl)))) sc.nd)
    (sss_one (ss_if (st_isN (sb_var rfl (i := 0))) (sss_one (ss_ret (se_bl rfl))) (sss_nil rfl)))) pa_def)
    (sss_one (ss_ret (se_bl rfl)))))⟩
theorem sc_Edits_mod : FnScope ["self", "other", "late", "found", "rest"] ["self", "other"] (defScope (inClass (top 56) 15)) := ⟨rfl, rfl, rfl, by decide +kernel, rfl, by decide +kernel, by decide +kernel⟩
theorem F_Edits_mod (T : Fc P c w mg) (TB : ∀ p ∈ cds c.K tq, LamX.TabB base mg p.1 p.2) : ∃ ad, Meth c.K (c.cls 0) "__mod__" ad ∧ Fn c P w mg base 10 ad 2 m_Edits_mod := by
  obtain ⟨_, hs_Edits_own_many⟩ := T.s_Edits_own_many
  obtain ⟨hxi_BadEdits, _, _, _, _, _, _, _, xE_BadEdits⟩ := T.xi_BadEdits
  obtain ⟨_, hs_Edits_own_acts⟩ := T.s_Edits_own_acts
  have h_Edits := T.g_Edits
  have h_abs := T.g_abs
  have h_tuple := T.g_tuple
  obtain ⟨_, hs_Edits_counts⟩ := T.s_Edits_counts
  have h_len := T.g_len
  have hC := T.C
  obtain ⟨_, _, hp_Edits_many, G_Edits_many⟩ := F_Edits_many (P := P) (base := base) T TB
  obtain ⟨_, hg_carried_row, G_carried_row⟩ := F_carried_row (P := P) (base := base) T TB
  obtain ⟨_, _, hp_Edits_acts, G_Edits_acts⟩ := F_Edits_acts (P := P) (base := base) T TB
  obtain ⟨_, _, mk_Edits, G_Edits_init⟩ := F_Edits_init (P := P) (base := base) T TB
  obtain ⟨_, hm_Edits_abs, G_Edits_abs⟩ := F_Edits_abs (P := P) (base := base) T TB
  obtain ⟨_, hg_can_do, G_can_do⟩ := F_can_do (P := P) (base := base) T TB
  obtain ⟨ad, fd, hmg, F⟩ := T.f_Edits_mod
  exact ⟨_, hmg, fn_mk (k := 9) F sc_Edits_mod (F.bindsN fun _ _ _ _ _ _ us hl => match us, hl with | [_, _], _ => rfl) (fun cdv A outer s H E hr => by
    have sc := sc_Edits_mod
    have hu := hr.units
    have hu1 := hu_of hr
    exact (sss_cons (ss_if (st_ne hu (SE.sb (se_attr (k := 0) (i := 2) (se_var rfl (i := 0)) (hC.sc 0 (by decide)) hs_Edits_own_many)) (SE.sb (se_prop (k := 0) (se_var rfl (i := 1)) (hC.sc 0 (by decide)) hp_Edits_many G_Edits_many (hr.mono (by decide))))) (sss_one (ss_raiseF xE_BadEdits (hr.mono (by decide)) hxi_BadEdits tk_def (sa_cons (se_non rfl) (sa_nil rfl)))) (sss_nil rfl))
    (sss_cons (ss_asgT (t := (.tup [3, 4])) (se_call G_carried_row (hr.mono (by decide)) hg_carried_row tk_def (sa_cons (se_attr (k := 0) (i := 1) (se_var rfl (i := 0)) (hC.sc 0 (by decide)) hs_Edits_own_acts) (sa_cons (se_prop (k := 0) (se_var rfl (i := 1)) (hC.sc 0 (by decide)) hp_Edits_acts G_Edits_acts (hr.mono (by decide))) (sa_nil rfl)))) (sg_tup (sgs_cons (i := 3) (sgs_cons (i := 4) sgs_nil sc.nd) sc.nd)))
    (sss_cons (ss_set (i := 2) (se_make (kc := 0) (ad := 0) mk_Edits G_Edits_init.1 G_Edits_init.2 (hr.mono (by decide)) h_Edits tk_def (sa_cons (se_absO (k := 0) (se_var rfl (i := 1)) h_abs (hC.sc 0 (by decide)) hm_Edits_abs G_Edits_abs (hr.mono (by decide))) (sa_cons (se_tuple (sab_cons (sb_var rfl (i := 3)) (sab_nil rfl)) h_tuple) (sa_nil rfl)))) sc.nd)
    (sss_cons (ss_if (st_not (st_val (se_call G_can_do (hr.mono (by decide)) hg_can_do tk_def (sa_cons (se_ix (SE.sb (se_attr (k := 0) (i := 0) (se_var rfl (i := 0)) (hC.sc 0 (by decide)) hs_Edits_counts)) (SE.sb (se_neg (se_int rfl)))) (sa_cons (se_var rfl (i := 4)) (sa_nil rfl)))))) (sss_one (ss_raiseF xE_BadEdits (hr.mono (by decide)) hxi_BadEdits tk_def (sa_cons (se_len (sab_cons (sb_var rfl (i := 3)) (sab_nil rfl)) h_len) (sa_nil rfl)))) (sss_nil rfl))
    (sss_one (ss_ret (se_var rfl (i := 2)))))))))⟩
theorem sc__law_gap_over : FnScope ["_law_other", "_law_gap", "_law_is_last", "_law_spot"] ["_law_other", "_law_gap", "_law_is_last"] (defScope (top 58)) := ⟨rfl, rfl, rfl, by decide +kernel, rfl, by decide +kernel, by decide +kernel⟩
theorem F__law_gap_over (T : Fc P c w mg) (TB : ∀ p ∈ cds c.K tq, LamX.TabB base mg p.1 p.2) : ∃ ad, mg "_law_gap_over" = some (.ref ad) ∧ Fn c P w mg base 1 ad 3 m__law_gap_over := by
  have hC := T.C
  obtain ⟨ad, fd, hmg, F⟩ := T.f__law_gap_over
  exact ⟨_, hmg, fn_mk (k := 0) F sc__law_gap_over (F.bindsN fun _ _ _ _ _ _ us hl => match us, hl with | [_, _, _], _ => rfl) (fun cdv A outer s H E hr => by
    have sc := sc__law_gap_over
    have hu := hr.units
    have hu1 := hu_of hr
    exact (sss_cons (ss_if (st_eq hu (SE.sb (se_ix (sb_var rfl (i := 0)) (SE.sb (se_int rfl)))) (SE.sb (se_str rfl))) (sss_cons (ss_set (i := 1) (se_if (st_gt (sb_var rfl (i := 1)) (SE.sb (se_ix (sb_var rfl (i := 0)) (SE.sb (se_int rfl))))) (se_sub (sb_var rfl (i := 1)) (SE.sb (se_int rfl))) (se_var rfl (i := 1))) sc.nd)
    (sss_one (ss_set (i := 3) (se_ix (sb_var rfl (i := 0)) (SE.sb (se_int rfl))) sc.nd))) (sss_one (ss_if (st_eq hu (SE.sb (se_ix (sb_var rfl (i := 0)) (SE.sb (se_int rfl)))) (SE.sb (se_str rfl))) (sss_one (ss_ret (se_if (st_gt (sb_var rfl (i := 1)) (SE.sb (se_ix (sb_var rfl (i := 0)) (SE.sb (se_int rfl))))) (se_sub (sb_var rfl (i := 1)) (SE.sb (se_int rfl))) (se_var rfl (i := 1))))) (sss_one (ss_set (i := 3) (se_if (st_eq hu (SE.sb (se_ix (sb_var rfl (i := 0)) (SE.sb (se_int rfl)))) (SE.sb (se_str rfl))) (se_ix (sb_var rfl (i := 0)) (SE.sb (se_int rfl))) (se_ix (sb_var rfl (i := 0)) (SE.sb (se_int rfl)))) sc.nd)))))
    (sss_cons (ss_if (st_eq hu (sb_var rfl (i := 1)) (sb_var rfl (i := 3))) (sss_one (ss_ret (se_if (st_val (se_var rfl (i := 2))) (se_add (sb_var rfl (i := 1)) (SE.sb (se_int rfl))) (se_var rfl (i := 1))))) (sss_nil rfl))
    (sss_one (ss_ret (se_if (st_gt (sb_var rfl (i := 1)) (sb_var rfl (i := 3))) (se_add (sb_var rfl (i := 1)) (SE.sb (se_int rfl))) (se_var rfl (i := 1))))))))⟩
theorem sc__law_step_over : FnScope ["_law_other", "_law_at", "_law_spot"] ["_law_other", "_law_at"] (defScope (top 59)) := ⟨rfl, rfl, rfl, by decide +kernel, rfl, by decide +kernel, by decide +kernel⟩
theorem F__law_step_over (T : Fc P c w mg) (TB : ∀ p ∈ cds c.K tq, LamX.TabB base mg p.1 p.2) : ∃ ad, mg "_law_step_over" = some (.ref ad) ∧ Fn c P w mg base 1 ad 2 m__law_step_over := by
  have hC := T.C
  obtain ⟨ad, fd, hmg, F⟩ := T.f__law_step_over
  exact ⟨_, hmg, fn_mk (k := 0) F sc__law_step_over (F.bindsN fun _ _ _ _ _ _ us hl => match us, hl with | [_, _], _ => rfl) (fun cdv A outer s H E hr => by
    have sc := sc__law_step_over
    have hu := hr.units
    have hu1 := hu_of hr
    exact (sss_cons (ss_if (st_in hu (SE.sb (se_ix (sb_var rfl (i := 0)) (SE.sb (se_int rfl)))) (SE.sb (se_tup (sa_cons (se_str rfl) (sa_cons (se_str rfl) (sa_nil rfl)))))) (sss_cons (ss_if (st_eq hu (sb_var rfl (i := 1)) (SE.sb (se_ix (sb_var rfl (i := 0)) (SE.sb (se_int rfl))))) (sss_one (ss_ret (se_if (st_eq hu (SE.sb (se_ix (sb_var rfl (i := 0)) (SE.sb (se_int rfl)))) (SE.sb (se_str rfl))) (se_non rfl) (se_ix (sb_var rfl (i := 0)) (SE.sb (se_int rfl)))))) (sss_nil rfl))
    (sss_one (ss_set (i := 1) (se_if (st_gt (sb_var rfl (i := 1)) (SE.sb (se_ix (sb_var rfl (i := 0)) (SE.sb (se_int rfl))))) (se_sub (sb_var rfl (i := 1)) (SE.sb (se_int rfl))) (se_var rfl (i := 1))) sc.nd))) (sss_nil rfl))
    (sss_cons (ss_if (st_eq hu (SE.sb (se_ix (sb_var rfl (i := 0)) (SE.sb (se_int rfl)))) (SE.sb (se_str rfl))) (sss_one (ss_ret (se_var rfl (i := 1)))) (sss_nil rfl))
    (sss_cons (ss_set (i := 2) (se_if (st_eq hu (SE.sb (se_ix (sb_var rfl (i := 0)) (SE.sb (se_int rfl)))) (SE.sb (se_str rfl))) (se_ix (sb_var rfl (i := 0)) (SE.sb (se_int rfl))) (se_ix (sb_var rfl (i := 0)) (SE.sb (se_int rfl)))) sc.nd)
    (sss_one (ss_ret (se_if (st_ge (sb_var rfl (i := 1)) (sb_var rfl (i := 2))) (se_add (sb_var rfl (i := 1)) (SE.sb (se_int rfl))) (se_var rfl (i := 1)))))))))⟩
theorem sc__law_over : FnScope ["_law_edit", "_law_other", "_law_is_last", "_law_at", "_law_gap", "_law_late"] ["_law_edit", "_law_other", "_law_is_last"] (defScope (top 60)) := ⟨rfl, rfl, rfl, by decide +kernel, rfl, by decide +kernel, by decide +kernel⟩
theorem F__law_over (T : Fc P c w mg) (TB : ∀ p ∈ cds c.K tq, LamX.TabB base mg p.1 p.2) : ∃ ad, mg "_law_over" = some (.ref ad) ∧ Fn c P w mg base 2 ad 3 m__law_over := by
  have hC := T.C
  obtain ⟨_, hg__law_gap_over, G__law_gap_over⟩ := F__law_gap_over (P := P) (base := base) T TB
  obtain ⟨_, hg__law_step_over, G__law_step_over⟩ := F__law_step_over (P := P) (base := base) T TB
  obtain ⟨ad, fd, hmg, F⟩ := T.f__law_over
  exact ⟨_, hmg, fn_mk (k := 1) F sc__law_over (F.bindsN fun _ _ _ _ _ _ us hl => match us, hl with | [_, _, _], _ => rfl) (fun cdv A outer s H E hr => by
    have sc := sc__law_over
    have hu := hr.units
    have hu1 := hu_of hr
    exact (sss_cons (ss_if (SW.st (sw_or (st_isN (sb_var rfl (i := 0))) (sw_or1 (st_isN (sb_var rfl (i := 1)))))) (sss_one (ss_ret (se_var rfl (i := 0)))) (sss_nil rfl))
    (sss_cons (ss_if (st_eq hu (SE.sb (se_ix (sb_var rfl (i := 0)) (SE.sb (se_int rfl)))) (SE.sb (se_str rfl))) (sss_one (ss_ret (se_tup (sa_cons (se_str rfl) (sa_cons (se_call G__law_gap_over (hr.mono (by decide)) hg__law_gap_over tk_def (sa_cons (se_var rfl (i := 1)) (sa_cons (se_ix (sb_var rfl (i := 0)) (SE.sb (se_int rfl))) (sa_cons (se_var rfl (i := 2)) (sa_nil rfl))))) (sa_nil rfl)))))) (sss_nil rfl))
    (sss_cons (ss_set (i := 3) (se_call G__law_step_over (hr.mono (by decide)) hg__law_step_over tk_def (sa_cons (se_var rfl (i := 1)) (sa_cons (se_ix (sb_var rfl (i := 0)) (SE.sb (se_int rfl))) (sa_nil rfl)))) sc.nd)
    (sss_cons (ss_if (st_isN (sb_var rfl (i := 3))) (sss_one (ss_ret (se_non rfl))) (sss_nil rfl))
    (sss_cons (ss_if (st_eq hu (SE.sb (se_ix (sb_var rfl (i := 0)) (SE.sb (se_int rfl)))) (SE.sb (se_str rfl))) (sss_one (ss_ret (se_tup (sa_cons (se_str rfl) (sa_cons (se_var rfl (i := 3)) (sa_nil rfl)))))) (sss_nil rfl))
    (sss_cons (ss_if (st_eq hu (SE.sb (se_ix (sb_var rfl (i := 0)) (SE.sb (se_int rfl)))) (SE.sb (se_str rfl))) (sss_one (ss_ret (se_tup (sa_cons (se_str rfl) (sa_cons (se_var rfl (i := 3)) (sa_cons (se_call G__law_gap_over (hr.mono (by decide)) hg__law_gap_over tk_def (sa_cons (se_var rfl (i := 1)) (sa_cons (se_ix (sb_var rfl (i := 0)) (SE.sb (se_int rfl))) (sa_cons (se_var rfl (i := 2)) (sa_nil rfl))))) (sa_nil rfl))))))) (sss_nil rfl))
    (sss_cons (ss_set (i := 4) (se_call G__law_gap_over (hr.mono (by decide)) hg__law_gap_over tk_def (sa_cons (se_var rfl (i := 1)) (sa_cons (se_add (SE.sb (se_ix (sb_var rfl (i := 0)) (SE.sb (se_int rfl)))) (SE.sb (se_if (st_lt (SE.sb (se_ix (sb_var rfl (i := 0)) (SE.sb (se_int rfl)))) (SE.sb (se_ix (sb_var rfl (i := 0)) (SE.sb (se_int rfl))))) (se_int rfl) (se_int rfl)))) (sa_cons (se_var rfl (i := 2)) (sa_nil rfl))))) sc.nd)
    (sss_cons (ss_set (i := 5) (se_if (st_le (sb_var rfl (i := 4)) (sb_var rfl (i := 3))) (se_var rfl (i := 4)) (se_sub (sb_var rfl (i := 4)) (SE.sb (se_int rfl)))) sc.nd)
    (sss_one (ss_ret (se_if (st_ne hu (sb_var rfl (i := 5)) (sb_var rfl (i := 3))) (se_tup (sa_cons (se_str rfl) (sa_cons (se_var rfl (i := 3)) (sa_cons (se_var rfl (i := 5)) (sa_nil rfl))))) (se_non rfl)))))))))))))⟩
theorem sc__law_row_over : FnScope ["_law_edits_here", "_law_others", "_law_edit", "_law_found", "_law_rest", "_law_late", "_law_other"] ["_law_edits_here", "_law_others"] (defScope (top 73)) := ⟨rfl, rfl, rfl, by decide +kernel, rfl, by decide +kernel, by decide +kernel⟩
theorem F__law_row_over (T : Fc P c w mg) (TB : ∀ p ∈ cds c.K tq, LamX.TabB base mg p.1 p.2) : ∃ ad, mg "_law_row_over" = some (.ref ad) ∧ Fn c P w mg base 3 ad 2 m__law_row_over := by
  have h_list := T.g_list
  have h_tuple := T.g_tuple
  have hC := T.C
  obtain ⟨_, hg__law_over, G__law_over⟩ := F__law_over (P := P) (base := base) T TB
  obtain ⟨ad, fd, hmg, F⟩ := T.f__law_row_over
  exact ⟨_, hmg, fn_mk (k := 2) F sc__law_row_over (F.bindsN fun _ _ _ _ _ _ us hl => match us, hl with | [_, _], _ => rfl) (fun cdv A outer s H E hr => by
    have sc := sc__law_row_over
    have hu := hr.units
    have hu1 := hu_of hr
    exact (sss_cons (ss_parS (i := 3) (j := 4) (sam_own (sn_lst (sa_nil rfl)) (sam_own (sn_list (sab_cons (sb_var rfl (i := 1)) (sab_nil rfl)) h_list) (sam_nil rfl))) sc.nd)
    (sss_cons (ss_for (t := (.one 2)) (si_seq (se_var rfl (i := 0))) (sg_one (i := 2) sc.nd) (sss_cons (ss_setN (i := 5) (sn_lst (sa_nil rfl)) sc.nd)
    (sss_cons (ss_frz [4] (ss_for (t := (.one 6)) (si_seq (se_var rfl (i := 4))) (sg_one (i := 6) sc.nd) (sss_cons (ss_append (i := 5) (se_call G__law_over (hr.mono (by decide)) hg__law_over tk_def (sa_cons (se_var rfl (i := 6)) (sa_cons (se_var rfl (i := 2)) (sa_cons (se_bl rfl) (sa_nil rfl))))))
    (sss_one (ss_set (i := 2) (se_call G__law_over (hr.mono (by decide)) hg__law_over tk_def (sa_cons (se_var rfl (i := 2)) (sa_cons (se_var rfl (i := 6)) (sa_cons (se_bl rfl) (sa_nil rfl))))) sc.nd))) pa_def))
    (sss_cons (ss_frz [5] (ss_set (i := 4) (se_var rfl (i := 5)) sc.nd))
    (sss_one (ss_if (st_notN (sb_var rfl (i := 2))) (sss_one (ss_append (i := 3) (se_var rfl (i := 2)))) (sss_nil rfl)))))) pa_def)
    (sss_one (ss_ret (se_tup (sa_cons (se_tuple (sab_cons (sb_var rfl (i := 3)) (sab_nil rfl)) h_tuple) (sa_cons (se_tuple (sab_cons (SE.sb (SN.se (sn_lc (own := [("_law_other", 6)]) (t := (.one 6)) (sic_own (sb_var rfl (i := 4))) sc.nd (blkOk_by (by kernel_rfl)) (by decide) (fun s H C cl fp => (sg_one (i := 6) sc.nd)) (fun s H C cl fp => (sts_one (st_notN (sb_var rfl (i := 6))))) (fun s H C cl fp => (se_var rfl (i := 6)))))) (sab_nil rfl)) h_tuple) (sa_nil rfl)))))))))⟩
theorem sc__law_end_of : FnScope ["_law_many", "_law_edits_here", "_law_edit"] ["_law_many", "_law_edits_here"] (defScope (top 62)) := ⟨rfl, rfl, rfl, by decide +kernel, rfl, by decide +kernel, by decide +kernel⟩
theorem F__law_end_of (T : Fc P c w mg) (TB : ∀ p ∈ cds c.K tq, LamX.TabB base mg p.1 p.2) : ∃ ad, mg "_law_end_of" = some (.ref ad) ∧ Fn c P w mg base 2 ad 2 m__law_end_of := by
  have hC := T.C
  obtain ⟨_, hg__law_many_after, G__law_many_after⟩ := F__law_many_after (P := P) (base := base) T TB
  obtain ⟨ad, fd, hmg, F⟩ := T.f__law_end_of
  exact ⟨_, hmg, fn_mk (k := 1) F sc__law_end_of (F.bindsN fun _ _ _ _ _ _ us hl => match us, hl with | [_, _], _ => rfl) (fun cdv A outer s H E hr => by
    have sc := sc__law_end_of
    have hu := hr.units
    have hu1 := hu_of hr
    exact (sss_cons (ss_for (t := (.one 2)) (si_seq (se_var rfl (i := 1))) (sg_one (i := 2) sc.nd) (sss_one (ss_set (i := 0) (se_call G__law_many_after (hr.mono (by decide)) hg__law_many_after tk_def (sa_cons (se_var rfl (i := 0)) (sa_cons (se_var rfl (i := 2)) (sa_nil rfl)))) sc.nd)) pa_def)
    (sss_one (ss_ret (se_var rfl (i := 0))))))⟩
theorem sc__law_first_wrong : FnScope ["_law_many", "_law_edits_here", "_law_at"] ["_law_many", "_law_edits_here"] (defScope (top 64)) := ⟨rfl, rfl, rfl, by decide +kernel, rfl, by decide +kernel, by decide +kernel⟩
theorem F__law_first_wrong (T : Fc P c w mg) (TB : ∀ p ∈ cds c.K tq, LamX.TabB base mg p.1 p.2) : ∃ ad, mg "_law_first_wrong" = some (.ref ad) ∧ Fn c P w mg base 2 ad 2 m__law_first_wrong := by
  have h_len := T.g_len
  have h_range := T.g_range
  have hC := T.C
  obtain ⟨_, hg__law_can, G__law_can⟩ := F__law_can (P := P) (base := base) T TB
  obtain ⟨_, hg__law_many_after, G__law_many_after⟩ := F__law_many_after (P := P) (base := base) T TB
  obtain ⟨ad, fd, hmg, F⟩ := T.f__law_first_wrong
  exact ⟨_, hmg, fn_mk (k := 1) F sc__law_first_wrong (F.bindsN fun _ _ _ _ _ _ us hl => match us, hl with | [_, _], _ => rfl) (fun cdv A outer s H E hr => by
    have sc := sc__law_first_wrong
    have hu := hr.units
    have hu1 := hu_of hr
    exact (sss_cons (ss_for (t := (.one 2)) (si_range1 (sa_cons (se_len (sab_cons (sb_var rfl (i := 1)) (sab_nil rfl)) h_len) (sa_nil rfl)) h_range) (sg_one (i := 2) sc.nd) (sss_cons (ss_if (st_not (st_val (se_call G__law_can (hr.mono (by decide)) hg__law_can tk_def (sa_cons (se_mul (SE.sb (se_tup (sa_cons (se_tup (sa_cons (se_non rfl) (sa_cons (se_tup (sa_nil rfl)) (sa_nil rfl)))) (sa_nil rfl)))) (sb_var rfl (i := 0))) (sa_cons (se_ix (sb_var rfl (i := 1)) (sb_var rfl (i := 2))) (sa_nil rfl)))))) (sss_one (ss_ret (se_var rfl (i := 2)))) (sss_nil rfl))
    (sss_one (ss_set (i := 0) (se_call G__law_many_after (hr.mono (by decide)) hg__law_many_after tk_def (sa_cons (se_var rfl (i := 0)) (sa_cons (se_ix (sb_var rfl (i := 1)) (sb_var rfl (i := 2))) (sa_nil rfl)))) sc.nd))) pa_def)
    (sss_one (ss_ret (se_non rfl)))))⟩
theorem sc__law_due : FnScope ["_law_many", "_law_edits_here", "_law_others", "_law_start", "_law_wrong", "_law_found", "_law_rest"] ["_law_many", "_law_edits_here", "_law_others"] (defScope (top 74)) := ⟨rfl, rfl, rfl, by decide +kernel, rfl, by decide +kernel, by decide +kernel⟩
theorem F__law_due (T : Fc P c w mg) (TB : ∀ p ∈ cds c.K tq, LamX.TabB base mg p.1 p.2) : ∃ ad, mg "_law_due" = some (.ref ad) ∧ Fn c P w mg base 4 ad 3 m__law_due := by
  have h_len := T.g_len
  have hC := T.C
  obtain ⟨_, hg__law_row_over, G__law_row_over⟩ := F__law_row_over (P := P) (base := base) T TB
  obtain ⟨_, hg__law_end_of, G__law_end_of⟩ := F__law_end_of (P := P) (base := base) T TB
  obtain ⟨_, hg__law_first_wrong, G__law_first_wrong⟩ := F__law_first_wrong (P := P) (base := base) T TB
  obtain ⟨ad, fd, hmg, F⟩ := T.f__law_due
  exact ⟨_, hmg, fn_mk (k := 3) F sc__law_due (F.bindsN fun _ _ _ _ _ _ us hl => match us, hl with | [_, _, _], _ => rfl) (fun cdv A outer s H E hr => by
    have sc := sc__law_due
    have hu := hr.units
    have hu1 := hu_of hr
    exact (sss_cons (ss_asgT (t := (.tup [5, 6])) (se_call G__law_row_over (hr.mono (by decide)) hg__law_row_over tk_def (sa_cons (se_var rfl (i := 1)) (sa_cons (se_var rfl (i := 2)) (sa_nil rfl)))) (sg_tup (sgs_cons (i := 5) (sgs_cons (i := 6) sgs_nil sc.nd) sc.nd)))
    (sss_cons (ss_set (i := 3) (se_call G__law_end_of (hr.mono (by decide)) hg__law_end_of tk_def (sa_cons (se_var rfl (i := 0)) (sa_cons (se_var rfl (i := 2)) (sa_nil rfl)))) sc.nd)
    (sss_cons (ss_set (i := 4) (se_call G__law_first_wrong (hr.mono (by decide)) hg__law_first_wrong tk_def (sa_cons (se_var rfl (i := 3)) (sa_cons (se_var rfl (i := 5)) (sa_nil rfl)))) sc.nd)
    (sss_cons (ss_if (st_notN (sb_var rfl (i := 4))) (sss_one (ss_ret (se_tup (sa_cons (se_str rfl) (sa_cons (se_var rfl (i := 4)) (sa_nil rfl)))))) (sss_nil rfl))
    (sss_cons (ss_if (st_notN (SE.sb (se_call G__law_first_wrong (hr.mono (by decide)) hg__law_first_wrong tk_def (sa_cons (se_call G__law_end_of (hr.mono (by decide)) hg__law_end_of tk_def (sa_cons (se_var rfl (i := 0)) (sa_cons (se_var rfl (i := 1)) (sa_nil rfl)))) (sa_cons (se_var rfl (i := 6)) (sa_nil rfl)))))) (sss_one (ss_ret (se_tup (sa_cons (se_str rfl) (sa_cons (se_len (sab_cons (sb_var rfl (i := 5)) (sab_nil rfl)) h_len) (sa_nil rfl)))))) (sss_nil rfl))
    (sss_one (ss_ret (se_tup (sa_cons (se_var rfl (i := 3)) (sa_cons (se_var rfl (i := 5)) (sa_nil rfl))))))))))))⟩
theorem sc_Edits_none : FnScope ["many"] ["many"] (defScope (inClass (top 56) 2)) := ⟨rfl, rfl, rfl, by decide +kernel, rfl, by decide +kernel, by decide +kernel⟩
theorem F_Edits_none (T : Fc P c w mg) (TB : ∀ p ∈ cds c.K tq, LamX.TabB base mg p.1 p.2) : ∃ p ad, SMet c.K (c.cls 0) "none" p ad ∧ Fn c P w mg base 10 ad 1 m_Edits_none := by
  have h_Edits := T.g_Edits
  have hC := T.C
  obtain ⟨_, _, mk_Edits, G_Edits_init⟩ := F_Edits_init (P := P) (base := base) T TB
  obtain ⟨p, ad, fd, hP, F⟩ := T.f_Edits_none
  exact ⟨p, ad, hP, fn_mk (k := 9) F sc_Edits_none (F.bindsN fun _ _ _ _ _ _ us hl => match us, hl with | [_], _ => rfl) (fun cdv A outer s H E hr => by
    have sc := sc_Edits_none
    have hu := hr.units
    have hu1 := hu_of hr
    exact (sss_one (ss_ret (se_make (kc := 0) (ad := 0) mk_Edits G_Edits_init.1 G_Edits_init.2 (hr.mono (by decide)) h_Edits tk_def (sa_cons (se_var rfl (i := 0)) (sa_cons (se_tup (sa_nil rfl)) (sa_nil rfl)))))))⟩
theorem sc_Edits_eq : FnScope ["self", "other"] ["self", "other"] (defScope (inClass (top 56) 18)) := ⟨rfl, rfl, rfl, by decide +kernel, rfl, by decide +kernel, by decide +kernel⟩
theorem F_Edits_eq (T : Fc P c w mg) (TB : ∀ p ∈ cds c.K tq, LamX.TabB base mg p.1 p.2) : ∃ ad, Meth c.K (c.cls 0) "__eq__" ad ∧ Fn c P w mg base 3 ad 2 m_Edits_eq := by
  have h_Edits := T.g_Edits
  have h_isinstance := T.g_isinstance
  obtain ⟨_, hs_Edits_own_many⟩ := T.s_Edits_own_many
  obtain ⟨_, hs_Edits_own_acts⟩ := T.s_Edits_own_acts
  have hC := T.C
  obtain ⟨_, _, hp_Edits_many, G_Edits_many⟩ := F_Edits_many (P := P) (base := base) T TB
  obtain ⟨_, _, hp_Edits_acts, G_Edits_acts⟩ := F_Edits_acts (P := P) (base := base) T TB
  obtain ⟨ad, fd, hmg, F⟩ := T.f_Edits_eq
  exact ⟨_, hmg, fn_mk (k := 2) F sc_Edits_eq (F.bindsN fun _ _ _ _ _ _ us hl => match us, hl with | [_, _], _ => rfl) (fun cdv A outer s H E hr => by
    have sc := sc_Edits_eq
    have hu := hr.units
    have hu1 := hu_of hr
    exact (sss_one (ss_ret (se_and (se_iso hC (sab_cons (sb_var rfl (i := 1)) (sab_cons (SE.sb (se_glob (v := .ref (c.cls 0)) rfl (by rfl) h_Edits rfl (fun _ => .cls _))) (sab_nil rfl))) h_isinstance) (se_and (se_eq hu (SE.sb (se_attr (k := 0) (i := 2) (se_var rfl (i := 0)) (hC.sc 0 (by decide)) hs_Edits_own_many)) (SE.sb (se_prop (k := 0) (se_var rfl (i := 1)) (hC.sc 0 (by decide)) hp_Edits_many G_Edits_many (hr.mono (by decide))))) (se_and1 (se_eq hu (SE.sb (se_attr (k := 0) (i := 1) (se_var rfl (i := 0)) (hC.sc 0 (by decide)) hs_Edits_own_acts)) (SE.sb (se_prop (k := 0) (se_var rfl (i := 1)) (hC.sc 0 (by decide)) hp_Edits_acts G_Edits_acts (hr.mono (by decide)))))))))))⟩
theorem sc_law : FnScope ["_law_script", "_law_by", "_law_draw_here", "_law_turn", "_law_many", "_law_none", "_law_wide", "_law_edits_here", "_law_others", "_law_one", "_law_other"] ["_law_script"] (defScope (top 75)) := ⟨rfl, rfl, rfl, by decide +kernel, rfl, by decide +kernel, by decide +kernel⟩
theorem F_law (T : Fc P c w mg) : ∃ ad fd, mg "law" = some (.ref ad) ∧ (∀ (s : Shared) (v : Value), BindsTo s fd ⟨[v], []⟩ [("_law_script", v)]) ∧ ∀ base : Heap, (∀ p ∈ cds c.K tq, LamX.TabB base mg p.1 p.2) → FnOk P w c.K mg base (L2.CX P w) 13 ad fd ["_law_script"] (PromF c 1 m_law) := by
  obtain ⟨fd, hmg, F⟩ := T.f_law
  have hb := FunD.bindsA (ps := ["_law_script"]) F fun _ _ _ _ _ _ us hl => match us, hl with | [_], _ => rfl
  refine ⟨_, fd, hmg, fun s v => hb s [v] rfl, fun base TB => ?_⟩
  have h_len := T.g_len
  have h_min := T.g_min
  have h_max := T.g_max
  have h_range := T.g_range
  have h_Edits := T.g_Edits
  have hsf_Edits := T.sf_Edits
  have hxm_BadEdits_BadEdits := T.xm_BadEdits_BadEdits
  obtain ⟨hxi_BadEdits, _, _, _, _, _, _, _, xE_BadEdits⟩ := T.xi_BadEdits
  have hxf_BadEdits := T.xf_BadEdits
  have hne_Edits := T.ne_Edits
  have h_abs := T.g_abs
  have hC := T.C
  obtain ⟨_, hg__law_next, G__law_next⟩ := F__law_next (P := P) (base := base) T TB
  obtain ⟨_, hg__law_some_edits, G__law_some_edits⟩ := F__law_some_edits (P := P) (base := base) T TB
  obtain ⟨_, _, mk_Edits, G_Edits_init⟩ := F_Edits_init (P := P) (base := base) T TB
  obtain ⟨_, _, hg__law_made_row, ask__law_made_row⟩ := F__law_made_row T
  obtain ⟨_, hm_Edits_mod, G_Edits_mod⟩ := F_Edits_mod (P := P) (base := base) T TB
  obtain ⟨_, _, hp_Edits_acts, G_Edits_acts⟩ := F_Edits_acts (P := P) (base := base) T TB
  obtain ⟨_, _, hp_Edits_many, G_Edits_many⟩ := F_Edits_many (P := P) (base := base) T TB
  obtain ⟨_, hg__law_due, G__law_due⟩ := F__law_due (P := P) (base := base) T TB
  obtain ⟨_, _, hst_Edits_none, G_Edits_none⟩ := F_Edits_none (P := P) (base := base) T TB
  obtain ⟨_, hm_Edits_eq, G_Edits_eq⟩ := F_Edits_eq (P := P) (base := base) T TB
  obtain ⟨_, hm_Edits_abs, G_Edits_abs⟩ := F_Edits_abs (P := P) (base := base) T TB
  have hl := lamT_of (mg := mg) (base := base) rfl T.tb T.tu TB (t := (.glo "law", "law")) (by simp [tq])
  exact fnOkC_mk (k := 12) F sc_law (fun cdv hcd A outer s H E hr => by
    have sc := sc_law
    have hu := hr.units
    have hu1 := hu_of hr
    refine sss_cons (ss_setN (i := 0) (sn_slice (sb_var rfl (i := 0)) (so_none rfl) (so_some (SE.sb (se_int rfl)))) sc.nd) ?_
    refine sss_cons (ss_for (t := (.one 1)) (si_range3 (sa_cons (se_int rfl) (sa_cons (se_max (sab_cons (SE.sb (se_int rfl)) (sab_cons (SE.sb (se_min (sab_cons (SE.sb (se_int rfl)) (sab_cons (SE.sb (se_len (sab_cons (sb_var rfl (i := 0)) (sab_nil rfl)) h_len)) (sab_nil rfl))) h_min)) (sab_nil rfl))) h_max) (sa_cons (se_int rfl) (sa_nil rfl)))) h_range) (sg_one (i := 1) sc.nd) (sss_cons (ss_frz [0] (ss_setS (i := 2) (sn_lst (sa_cons (se_var rfl (i := 0)) (sa_cons (se_var rfl (i := 1)) (sa_cons (se_int rfl) (sa_nil rfl))))) sc.nd))
    (sss_one (ss_for (t := (.one 3)) (si_range1 (sa_cons (se_int rfl) (sa_nil rfl)) h_range) (sg_one (i := 3) sc.nd) (sss_cons (ss_set (i := 4) (se_call G__law_next (hr.mono (by decide)) hg__law_next tk_def (sa_cons (se_var rfl (i := 2)) (sa_cons (se_int rfl) (sa_nil rfl)))) sc.nd)
    (sss_cons (ss_parS (i := 7) (j := 8) (sam_val (se_call G__law_some_edits (hr.mono (by decide)) hg__law_some_edits tk_def (sa_cons (se_var rfl (i := 2)) (sa_cons (se_var rfl (i := 4)) (sa_cons (se_int rfl) (sa_nil rfl))))) (sam_val (se_call G__law_some_edits (hr.mono (by decide)) hg__law_some_edits tk_def (sa_cons (se_var rfl (i := 2)) (sa_cons (se_var rfl (i := 4)) (sa_cons (se_int rfl) (sa_nil rfl))))) (sam_nil rfl))) sc.nd)
    (sss_cons (ss_asgT (t := (.tup [9, 10])) (se_tup (sa_cons (se_make (kc := 0) (ad := 0) mk_Edits G_Edits_init.1 G_Edits_init.2 (hr.mono (by decide)) h_Edits tk_def (sa_cons (se_var rfl (i := 4)) (sa_cons (se_var rfl (i := 7)) (sa_nil rfl)))) (sa_cons (se_make (kc := 0) (ad := 0) mk_Edits G_Edits_init.1 G_Edits_init.2 (hr.mono (by decide)) h_Edits tk_def (sa_cons (se_var rfl (i := 4)) (sa_cons (se_var rfl (i := 8)) (sa_nil rfl)))) (sa_nil rfl)))) (sg_tup (sgs_cons (i := 9) (sgs_cons (i := 10) sgs_nil sc.nd) sc.nd)))
    (sss_cons (ss_if (st_ne hu (SE.sb (se_lamT (k := 10) ask__law_made_row.1 ask__law_made_row.2 sc__law_made_row hg__law_made_row rfl (fun _ => gives_t (fun _ _ => (.tup (i := 2) ⟨rfl, by decide, .inl hxi_BadEdits⟩ sc__law_made_row.nd rfl rfl hxf_BadEdits.1 hxf_BadEdits.2 (by decide) (by decide) (fun _ => rfl) .nil)) (fun _ => rfl) sc__law_made_row.nd rfl (.inl rfl) rfl (fun s H pn xe => (se_tup (sa_cons (se_prop (k := 0) (se_var rfl (i := 1)) (hC.sc 0 (by decide)) hp_Edits_many G_Edits_many (Room.deeper (k := 2) (hr.mono (by decide)) _)) (sa_cons (se_prop (k := 0) (se_var rfl (i := 1)) (hC.sc 0 (by decide)) hp_Edits_acts G_Edits_acts (Room.deeper (k := 2) (hr.mono (by decide)) _)) (sa_nil rfl))))))  (.cons (.tup (tst_cons hxm_BadEdits_BadEdits tst_nil) (tst_only (k0 := 2) (by decide))) .nil) hl (by exact hcd) (hr.mono (by decide)) (LamX.lamS_by (by kernel_rfl)) (fun A outer s H E f c' hr => (se_binA (op := .Mod) (k := 0) (nm := "__mod__") (by decide +kernel) hsf_Edits (se_var rfl (i := 9)) (se_var rfl (i := 10)) hm_Edits_mod G_Edits_mod (hr.mono (by decide)) tk_lam)))) (SE.sb (se_call G__law_due (hr.mono (by decide)) hg__law_due tk_def (sa_cons (se_var rfl (i := 4)) (sa_cons (se_var rfl (i := 7)) (sa_cons (se_var rfl (i := 8)) (sa_nil rfl))))))) (sss_one (ss_ret (se_bl rfl))) (sss_nil rfl))
    (sss_cons (ss_if (st_ne hu (SE.sb (se_lamT (k := 10) ask__law_made_row.1 ask__law_made_row.2 sc__law_made_row hg__law_made_row rfl (fun _ => gives_t (fun _ _ => (.tup (i := 2) ⟨rfl, by decide, .inl hxi_BadEdits⟩ sc__law_made_row.nd rfl rfl hxf_BadEdits.1 hxf_BadEdits.2 (by decide) (by decide) (fun _ => rfl) .nil)) (fun _ => rfl) sc__law_made_row.nd rfl (.inl rfl) rfl (fun s H pn xe => (se_tup (sa_cons (se_prop (k := 0) (se_var rfl (i := 1)) (hC.sc 0 (by decide)) hp_Edits_many G_Edits_many (Room.deeper (k := 2) (hr.mono (by decide)) _)) (sa_cons (se_prop (k := 0) (se_var rfl (i := 1)) (hC.sc 0 (by decide)) hp_Edits_acts G_Edits_acts (Room.deeper (k := 2) (hr.mono (by decide)) _)) (sa_nil rfl))))))  (.cons (.tup (tst_cons hxm_BadEdits_BadEdits tst_nil) (tst_only (k0 := 2) (by decide))) .nil) hl (by exact hcd) (hr.mono (by decide)) (LamX.lamS_by (by kernel_rfl)) (fun A outer s H E f c' hr => (se_binA (op := .Mod) (k := 0) (nm := "__mod__") (by decide +kernel) hsf_Edits (se_var rfl (i := 10)) (se_var rfl (i := 9)) hm_Edits_mod G_Edits_mod (hr.mono (by decide)) tk_lam)))) (SE.sb (se_call G__law_due (hr.mono (by decide)) hg__law_due tk_def (sa_cons (se_var rfl (i := 4)) (sa_cons (se_var rfl (i := 8)) (sa_cons (se_var rfl (i := 7)) (sa_nil rfl))))))) (sss_one (ss_ret (se_bl rfl))) (sss_nil rfl))
    (sss_cons (ss_set (i := 5) (se_static hst_Edits_none G_Edits_none (hr.mono (by decide)) h_Edits tk_def (sa_cons (se_var rfl (i := 4)) (sa_nil rfl))) sc.nd)
    (sss_cons (ss_if (SW.st (sw_or (st_neA (k := 0) hC (by decide) hne_Edits (se_binA (op := .Mod) (k := 0) (nm := "__mod__") (by decide +kernel) hsf_Edits (se_var rfl (i := 9)) (se_var rfl (i := 5)) hm_Edits_mod G_Edits_mod (hr.mono (by decide)) tk_def) (se_var rfl (i := 9)) hm_Edits_eq G_Edits_eq (hr.mono (by decide)) (Nat.lt_of_le_of_lt (Nat.add_le_add_left (by decide) _) hu) tk_def) (sw_or (st_ne hu (SE.sb (se_prop (k := 0) (se_binA (op := .Mod) (k := 0) (nm := "__mod__") (by decide +kernel) hsf_Edits (se_var rfl (i := 5)) (se_var rfl (i := 9)) hm_Edits_mod G_Edits_mod (hr.mono (by decide)) tk_def) (hC.sc 0 (by decide)) hp_Edits_acts G_Edits_acts (hr.mono (by decide)))) (SE.sb (se_tup (sa_nil rfl)))) (sw_or1 (st_ne hu (SE.sb (se_prop (k := 0) (se_binA (op := .Mod) (k := 0) (nm := "__mod__") (by decide +kernel) hsf_Edits (se_var rfl (i := 5)) (se_var rfl (i := 9)) hm_Edits_mod G_Edits_mod (hr.mono (by decide)) tk_def) (hC.sc 0 (by decide)) hp_Edits_many G_Edits_many (hr.mono (by decide)))) (SE.sb (se_absO (k := 0) (se_var rfl (i := 9)) h_abs (hC.sc 0 (by decide)) hm_Edits_abs G_Edits_abs (hr.mono (by decide))))))))) (sss_one (ss_ret (se_bl rfl))) (sss_nil rfl))
    (sss_cons (ss_set (i := 6) (se_make (kc := 0) (ad := 0) mk_Edits G_Edits_init.1 G_Edits_init.2 (hr.mono (by decide)) h_Edits tk_def (sa_cons (se_add (sb_var rfl (i := 4)) (SE.sb (se_int rfl))) (sa_cons (se_tup (sa_nil rfl)) (sa_nil rfl)))) sc.nd)
    (sss_one (ss_if (st_ne hu (SE.sb (se_lamT (k := 10) ask__law_made_row.1 ask__law_made_row.2 sc__law_made_row hg__law_made_row rfl (fun _ => gives_t (fun _ _ => (.tup (i := 2) ⟨rfl, by decide, .inl hxi_BadEdits⟩ sc__law_made_row.nd rfl rfl hxf_BadEdits.1 hxf_BadEdits.2 (by decide) (by decide) (fun _ => rfl) .nil)) (fun _ => rfl) sc__law_made_row.nd rfl (.inl rfl) rfl (fun s H pn xe => (se_tup (sa_cons (se_prop (k := 0) (se_var rfl (i := 1)) (hC.sc 0 (by decide)) hp_Edits_many G_Edits_many (Room.deeper (k := 2) (hr.mono (by decide)) _)) (sa_cons (se_prop (k := 0) (se_var rfl (i := 1)) (hC.sc 0 (by decide)) hp_Edits_acts G_Edits_acts (Room.deeper (k := 2) (hr.mono (by decide)) _)) (sa_nil rfl))))))  (.cons (.tup (tst_cons hxm_BadEdits_BadEdits tst_nil) (tst_only (k0 := 2) (by decide))) .nil) hl (by exact hcd) (hr.mono (by decide)) (LamX.lamS_by (by kernel_rfl)) (fun A outer s H E f c' hr => (se_binA (op := .Mod) (k := 0) (nm := "__mod__") (by decide +kernel) hsf_Edits (se_var rfl (i := 9)) (se_var rfl (i := 6)) hm_Edits_mod G_Edits_mod (hr.mono (by decide)) tk_lam)))) (SE.sb (se_tup (sa_cons (se_str rfl) (sa_cons (se_non rfl) (sa_nil rfl)))))) (sss_one (ss_ret (se_bl rfl))) (sss_nil rfl))))))))))) pa_def))) pa_def) ?_
    exact sss_one (ss_ret (se_bl rfl)))
end
end Wk

/-! text: Q2 -/
set_option Elab.async false
set_option linter.all false
set_option maxRecDepth 100000
set_option maxHeartbeats 1000000
namespace Sm
open PySem PySem.Spec L2
theorem e_addT {a b : List D} (h : a.length + b.length ≤ 100000) (S : Sto) : addA (.tup a) (.tup b) S = some (.tup (a ++ b)) := by
  have e1 : addI (.tup a) (.tup b) S = none := rfl
  have e2 : addS (.tup a) (.tup b) S = none := rfl
  simp only [addA, orD, e1, e2, addT, h, if_true]
end Sm
namespace Pu
open PySem PySem.Spec L2 Sm Wk
theorem cell_at (ns : List Int) (k : Nat) (S : Sto) : m__law_cell_at [.lst (ns.map D.int), .int k] S = .ok (.int (ns.getD k 0)) S := by
  unfold m__law_cell_at b__law_cell_at
  by_cases h : k < ns.length
  · have e : L2.atI (ns.map D.int) (k : Int) = some (.int (ns.getD k 0)) := L2.atI_nat (by simp [h])
    simp [h, e]
  · simp [h]
def primes : List Int := [1000003, 1000033, 1000037, 1000039, 1000081, 1000099, 1000117, 1000121, 1000133, 1000151, 1000159, 1000171, 1000183, 1000187, 1000193, 1000199]
theorem prime_at (k : Int) : ∃ p : Int, 0 < p ∧ L2.atI (primes.map D.int) (k % 16) = some (.int p) := by
  have h16 : ∃ j : Nat, k % 16 = (j : Int) ∧ j < 16 := ⟨(k % 16).toNat, by omega, by omega⟩
  obtain ⟨j, hj, hj2⟩ := h16
  have hl : j < primes.length := hj2
  refine ⟨primes[j], ?_, ?_⟩
  · have : ∀ p ∈ primes, 0 < p := by decide
    exact this _ (List.getElem_mem hl)
  · rw [hj]
    exact L2.atI_nat (by simp [hl])
/-- _law_draw: a number below the bound -/
theorem draw (i k b : Int) (hk : 0 ≤ k ∧ k < 2 ^ 60) (hb : 0 < b) (S : Sto) : ∃ r, m__law_draw [.int i, .int k, .int b] S = .ok (.int r) S ∧ 0 ≤ r ∧ r < b := by
  unfold m__law_draw b__law_draw
  obtain ⟨p, hp, ep⟩ := prime_at k
  unfold primes at ep
  simp only [List.map_cons, List.map_nil] at ep
  refine ⟨((i * 48271 + k * 69621) % p) % b, ?_, Int.emod_nonneg _ (by omega), Int.emod_lt_of_pos _ hb⟩
  have m1 : ∀ S, mulA (.int i) (.int 48271) S = some (.int (i * 48271)) := fun S => e_mul (.inr (by decide)) S
  have m2 : ∀ S, mulA (.int k) (.int 69621) S = some (.int (k * 69621)) := fun S => e_mul (.inr (by decide)) S
  have m3 : ∀ S, modI (.int k) (.int 16) S = some (.int (k % 16)) := fun S => e_mod (by decide) S
  simp [m1, m2, m3, ep, e_mod hp, e_mod hb, e_addT]
theorem pow_loop (a b c : Slot) : ∀ (ds : List D) (p : Int) (x e f : Slot) (S : Sto), ∃ y, Sm.forM (.one 4) (setV 3 fun ρ => (o2 mulA (vb ρ 3) (rt (.int 1009)))) ds [a, b, c, .val (.int p), x, e, f] S = .ok (.nx [a, b, c, .val (.int (p * 1009 ^ ds.length)), y, e, f]) S
  | [], p, x, e, f, S => ⟨x, by simp [Sm.forM]⟩
  | d :: ds, p, x, e, f, S => by
    have m1 : ∀ S, mulA (.int p) (.int 1009) S = some (.int (p * 1009)) := fun S => e_mul (.inr (by decide)) S
    obtain ⟨y, h⟩ := pow_loop a b c ds (p * 1009) (.val d) e f S
    refine ⟨y, ?_⟩
    unfold Sm.forM
    simp [bindD, m1, h]
    rw [Int.pow_succ, Int.mul_assoc, Int.mul_comm 1009]
theorem number (cell k b : Int) (hk : 0 ≤ k ∧ k ≤ 100) (hb : 0 < b) (S : Sto) : ∃ r, m__law_number [.int cell, .int k, .int b] S = .ok (.int r) S ∧ 0 ≤ r ∧ r < b := by
  obtain ⟨n, hn, hn2⟩ : ∃ n : Nat, k % 24 = (n : Int) ∧ n < 24 := ⟨(k % 24).toNat, by omega, by omega⟩
  have hr : ∀ ρ S, vb ρ 1 S = .ok (.int k) S → range1M (consM (o2 modI (c1 intD (consM (vb ρ 1) (rt []))) (rt (.int 24))) (rt [])) S = .ok (rng 0 n) S := fun ρ S h => by
    refine e_range1 (n := n) ?_ (by omega)
    have m1 : ∀ S, modI (.int k) (.int 24) S = some (.int (k % 24)) := fun S => e_mod (by decide) S
    simp only [e_consM, e_o2, e_c1, h, e_rt, e_int, e_op2, m1, hn]
  obtain ⟨y, hl⟩ := pow_loop (.val (.int cell)) (.val (.int k)) (.val (.int b)) (rng 0 n) 1 .no .no .no S
  rw [rng_len, Int.one_mul] at hl
  have hpow : (0 : Int) < 1009 ^ n := Int.pow_pos (by decide)
  have hpow2 : (1009 : Int) ^ n < 2 ^ 1000 := by
    have h1 : 1009 ^ n ≤ 1009 ^ 23 := Nat.pow_le_pow_right (by decide) (by omega)
    have h2 : (1009 : Nat) ^ 23 < 2 ^ 1000 := by decide +kernel
    have h3 : (1009 : Nat) ^ n < 2 ^ 1000 := Nat.lt_of_le_of_lt h1 h2
    exact_mod_cast h3
  have d1 : ∀ (i : Int) S, divI (.int i) (.int (1009 ^ n)) S = some (.int (i / 1009 ^ n)) := fun i S => e_div hpow hpow2 S
  have p1 : ∀ S, powI (.int 10) (.int 18) S = some (.int (10 ^ 18)) := fun S => by rfl
  have m1 : ∀ (i : Int) S, modI (.int i) (.int 1009) S = some (.int (i % 1009)) := fun i S => e_mod (by decide) S
  have m2 : ∀ (i : Int) S, modI (.int i) (.int b) S = some (.int (i % b)) := fun i S => e_mod hb S
  have m3 : ∀ (i : Int) S, modI (.int i) (.int 1000003) S = some (.int (i % 1000003)) := fun i S => e_mod (by decide) S
  have m4 : ∀ (i : Int) S, modI (.int i) (.int 9) S = some (.int (i % 9)) := fun i S => e_mod (by decide) S
  unfold m__law_number b__law_number
  by_cases hp : 0 < (cell - 10 ^ 18) / 1009 ^ n
  · refine ⟨((cell - 10 ^ 18) / 1009 ^ n) % 1009 % b, ?_, Int.emod_nonneg _ (by omega), Int.emod_lt_of_pos _ hb⟩
    simp only [e_fnM, e_seqS, e_setV, e_rt, e_bd, List.map_cons, List.map_nil, List.length_cons, List.length_nil, List.replicate, List.cons_append, List.nil_append, List.set_cons_succ, List.set_cons_zero]
    rw [hr _ _ (by simp)]
    have hp' : 0 < (cell - 1000000000000000000) / 1009 ^ n := hp
    simp [hl, d1, p1, m1, m2, hp']
  · have hp' : ¬ 0 < (cell - 1000000000000000000) / 1009 ^ n := hp
    have hs := Int.emod_nonneg cell (show (1000003 : Int) ≠ 0 by decide)
    have hs2 := Int.emod_lt_of_pos cell (show (0 : Int) < 1000003 by decide)
    have mk1 : ∀ S, mulA (.int 977) (.int k) S = some (.int (977 * k)) := fun S => e_mul (.inl (by decide)) S
    have mk2 : ∀ S, mulA (.int 31) (.int k) S = some (.int (31 * k)) := fun S => e_mul (.inl (by decide)) S
    have mk3 : ∀ S, mulA (.int (cell % 1000003 + 977 * k)) (.int (cell % 1000003 + 31 * k + 5)) S = some (.int ((cell % 1000003 + 977 * k) * (cell % 1000003 + 31 * k + 5))) := fun S => e_mul (.inl (by constructor <;> omega)) S
    obtain ⟨r, h1, h2, h3⟩ := draw ((cell % 1000003 + 977 * k) * (cell % 1000003 + 31 * k + 5)) (k % 9 + 1) 999983 (by omega) (by decide) S
    refine ⟨r % b, ?_, Int.emod_nonneg _ (by omega), Int.emod_lt_of_pos _ hb⟩
    simp only [e_fnM, e_seqS, e_setV, e_rt, e_bd, List.map_cons, List.map_nil, List.length_cons, List.length_nil, List.replicate, List.cons_append, List.nil_append, List.set_cons_succ, List.set_cons_zero]
    rw [hr _ _ (by simp)]
    simp [hl, d1, p1, m1, m2, m3, m4, mk1, mk2, mk3, h1, hp']
end Pu

/-! text: Q3 -/
set_option Elab.async false
set_option linter.all false
set_option maxRecDepth 100000
set_option maxHeartbeats 1000000
namespace Pu
open PySem PySem.Spec L2 Sm Wk
/-- the list of draws stands at n -/
def Draw (n : Nat) (S : Sto) : Prop := ∃ (ns : List Int) (by_ cnt : Int), S[n]? = some (.lst [.lst (ns.map D.int), .int by_, .int cnt]) ∧ 0 ≤ by_ ∧ 0 ≤ cnt
theorem e_setIxR {i n : Nat} {m mk : Sm.Env → M D} {ρ : Sm.Env} {S S1 S2 : Sto} {v : D} {k : Int} {j : Nat} {ds : List D} (h1 : m ρ S = .ok v S1) (h2 : ρ[i]? = some (.val (.ref n))) (h3 : mk ρ S1 = .ok (.int k) S2) (h4 : S2[n]? = some (.lst ds)) (h5 : L2.ixN ds.length k = some j) :
    setIx i m mk ρ S = .ok (.nx ρ) (S2.set n (.lst (ds.set j v))) := by
  unfold setIx
  simp only [e_bd, h1, h2, opt, h3]
  unfold setAt
  simp only [h2, h4, h5]
theorem next (n : Nat) (b : Int) (hb : 0 < b) (S : Sto) (hd : Draw n S) : ∃ r S', m__law_next [.ref n, .int b] S = .ok (.int r) S' ∧ 0 ≤ r ∧ r < b ∧ Draw n S' ∧ S'.length = S.length := by
  obtain ⟨ns, by_, cnt, h, h1, h2⟩ := hd
  have hlt : n < S.length := (List.getElem?_eq_some_iff.mp h).1
  let S' := S.set n (.lst [.lst (ns.map D.int), .int by_, .int (cnt + 1)])
  have hS' : S'[n]? = some (.lst [.lst (ns.map D.int), .int by_, .int (cnt + 1)]) := List.getElem?_set_self hlt
  have e2 : ∀ i, ixD (.ref n) (.int i) S = L2.atI [.lst (ns.map D.int), .int by_, .int cnt] i := fun i => e_ixR h i
  have e2' : ∀ i, ixD (.ref n) (.int i) S' = L2.atI [.lst (ns.map D.int), .int by_, .int (cnt + 1)] i := fun i => e_ixR hS' i
  have d1 : ∀ S, divI (.int (cnt + 1)) (.int 12) S = some (.int ((cnt + 1) / 12)) := fun S => e_div (by decide) (by decide +kernel) S
  have m1 : ∀ S, modI (.int (cnt + 1)) (.int 12) S = some (.int ((cnt + 1) % 12)) := fun S => e_mod (by decide) S
  have hat : 0 ≤ (cnt + 1) / 12 := Int.ediv_nonneg (by omega) (by decide)
  have m2 : ∀ S, mulA (.int 31) (.int ((cnt + 1) / 12)) S = some (.int (31 * ((cnt + 1) / 12))) := fun S => e_mul (.inl (by decide)) S
  obtain ⟨q, hq⟩ : ∃ q : Nat, by_ + (cnt + 1) / 12 = (q : Int) := ⟨(by_ + (cnt + 1) / 12).toNat, by omega⟩
  obtain ⟨r, hr, r1, r2⟩ := number (ns.getD q 0 + 31 * ((cnt + 1) / 12)) ((cnt + 1) % 12 + 1) b (by omega) hb S'
  refine ⟨r, S', ?_, r1, r2, ⟨ns, by_, cnt + 1, hS', h1, by omega⟩, by simp [S']⟩
  unfold m__law_next b__law_next
  rw [e_fnM, e_seqS, e_setIxR (n := n) (k := 2) (j := 2) (v := .int (cnt + 1)) (S1 := S) (S2 := S) (ds := [.lst (ns.map D.int), .int by_, .int cnt]) (by simp [e2]) rfl rfl h rfl]
  have eS : S.set n (.lst (List.set [.lst (ns.map D.int), .int by_, .int cnt] 2 (.int (cnt + 1)))) = S' := rfl
  simp only [eS]
  rw [List.getD_eq_getElem?_getD] at hr
  simp [e2', d1, m1, m2, hq, cell_at, hr]
/-- _law_pick: one of the things -/
theorem pick (n : Nat) (xs : List D) (hx : xs ≠ []) (S : Sto) (hd : Draw n S) : ∃ x S', m__law_pick [.ref n, .lst xs] S = .ok x S' ∧ x ∈ xs ∧ Draw n S' ∧ S'.length = S.length := by
  have hl : 0 < xs.length := List.length_pos_iff.mpr hx
  obtain ⟨r, S', h, h1, h2, h3, h4⟩ := next n xs.length (by omega) S hd
  obtain ⟨j, rfl⟩ : ∃ j : Nat, r = (j : Int) := ⟨r.toNat, by omega⟩
  have hj : j < xs.length := by omega
  refine ⟨xs[j], S', ?_, List.getElem_mem hj, h3, h4⟩
  have e : L2.atI xs (j : Int) = some xs[j] := L2.atI_nat (List.getElem?_eq_getElem hj)
  unfold m__law_pick b__law_pick
  simp [h, e]
theorem pickS (n : Nat) (z : Str) (hz : z.cps.toList ≠ []) (hz2 : z.length = z.cps.toList.length ∧ z.length ≤ 100000) (S : Sto) (hd : Draw n S) : ∃ x S', m__law_pick [.ref n, .str z] S = .ok (.str ⟨#[x]⟩) S' ∧ x ∈ z.cps.toList ∧ Draw n S' ∧ S'.length = S.length := by
  have hl : 0 < z.cps.toList.length := List.length_pos_iff.mpr hz
  obtain ⟨r, S', h, h1, h2, h3, h4⟩ := next n z.length (by omega) S hd
  obtain ⟨j, rfl⟩ : ∃ j : Nat, r = (j : Int) := ⟨r.toNat, by omega⟩
  have hj : j < z.cps.toList.length := by omega
  refine ⟨z.cps.toList[j], S', ?_, List.getElem_mem hj, h3, h4⟩
  have e : L2.atI z.cps.toList (j : Int) = some z.cps.toList[j] := L2.atI_nat (List.getElem?_eq_getElem hj)
  have e1 : ∀ S, lenD [.str z] S = some (.int z.length) := fun S => if_pos hz2.2
  have e2 : ∀ S, ixD (.str z) (.int (j : Int)) S = some (.str ⟨#[z.cps.toList[j]]⟩) := fun S => by
    show (if _ then _ else _) = _
    rw [if_pos hz2.2, e]
    rfl
  unfold m__law_pick b__law_pick
  simp only [e_fnM, e_bd, e_o2, e_consM, e_vl, e_vb, e_rt, e_c1, List.map_cons, List.map_nil, List.length_cons, List.length_nil, List.replicate, List.cons_append, List.nil_append, List.getElem?_cons_zero, List.getElem?_cons_succ, e1, e_call2, h, e_op2, e2]
end Pu

/-! text: QW -/
set_option Elab.async false
set_option linter.all false
set_option maxRecDepth 100000
set_option maxHeartbeats 1000000
namespace Pu
open PySem PySem.Spec L2 Sm Wk
/-! ### the words differ -/
@[simp] theorem w_put_out : (("put" : Str) = "out") = False := by decide +kernel
@[simp] theorem w_put_move : (("put" : Str) = "move") = False := by decide +kernel
@[simp] theorem w_put_copy : (("put" : Str) = "copy") = False := by decide +kernel
@[simp] theorem w_put_join : (("put" : Str) = "join") = False := by decide +kernel
@[simp] theorem w_put_number : (("put" : Str) = "number") = False := by decide +kernel
@[simp] theorem w_put_above : (("put" : Str) = "above") = False := by decide +kernel
@[simp] theorem w_put_below : (("put" : Str) = "below") = False := by decide +kernel
@[simp] theorem w_put_end : (("put" : Str) = "end") = False := by decide +kernel
@[simp] theorem w_put_label : (("put" : Str) = "label") = False := by decide +kernel
@[simp] theorem w_put_raw : (("put" : Str) = "raw") = False := by decide +kernel
@[simp] theorem w_put_shift : (("put" : Str) = "shift") = False := by decide +kernel
@[simp] theorem w_put_follow : (("put" : Str) = "follow") = False := by decide +kernel
@[simp] theorem w_put_old : (("put" : Str) = "old") = False := by decide +kernel
@[simp] theorem w_put_joined : (("put" : Str) = "joined") = False := by decide +kernel
@[simp] theorem w_put_new : (("put" : Str) = "new") = False := by decide +kernel
@[simp] theorem w_out_put : (("out" : Str) = "put") = False := by decide +kernel
@[simp] theorem w_out_move : (("out" : Str) = "move") = False := by decide +kernel
@[simp] theorem w_out_copy : (("out" : Str) = "copy") = False := by decide +kernel
@[simp] theorem w_out_join : (("out" : Str) = "join") = False := by decide +kernel
@[simp] theorem w_out_number : (("out" : Str) = "number") = False := by decide +kernel
@[simp] theorem w_out_above : (("out" : Str) = "above") = False := by decide +kernel
@[simp] theorem w_out_below : (("out" : Str) = "below") = False := by decide +kernel
@[simp] theorem w_out_end : (("out" : Str) = "end") = False := by decide +kernel
@[simp] theorem w_out_label : (("out" : Str) = "label") = False := by decide +kernel
@[simp] theorem w_out_raw : (("out" : Str) = "raw") = False := by decide +kernel
@[simp] theorem w_out_shift : (("out" : Str) = "shift") = False := by decide +kernel
@[simp] theorem w_out_follow : (("out" : Str) = "follow") = False := by decide +kernel
@[simp] theorem w_out_old : (("out" : Str) = "old") = False := by decide +kernel
@[simp] theorem w_out_joined : (("out" : Str) = "joined") = False := by decide +kernel
@[simp] theorem w_out_new : (("out" : Str) = "new") = False := by decide +kernel
@[simp] theorem w_move_put : (("move" : Str) = "put") = False := by decide +kernel
@[simp] theorem w_move_out : (("move" : Str) = "out") = False := by decide +kernel
@[simp] theorem w_move_copy : (("move" : Str) = "copy") = False := by decide +kernel
@[simp] theorem w_move_join : (("move" : Str) = "join") = False := by decide +kernel
@[simp] theorem w_move_number : (("move" : Str) = "number") = False := by decide +kernel
@[simp] theorem w_move_above : (("move" : Str) = "above") = False := by decide +kernel
@[simp] theorem w_move_below : (("move" : Str) = "below") = False := by decide +kernel
@[simp] theorem w_move_end : (("move" : Str) = "end") = False := by decide +kernel
@[simp] theorem w_move_label : (("move" : Str) = "label") = False := by decide +kernel
@[simp] theorem w_move_raw : (("move" : Str) = "raw") = False := by decide +kernel
@[simp] theorem w_move_shift : (("move" : Str) = "shift") = False := by decide +kernel
@[simp] theorem w_move_follow : (("move" : Str) = "follow") = False := by decide +kernel
@[simp] theorem w_move_old : (("move" : Str) = "old") = False := by decide +kernel
@[simp] theorem w_move_joined : (("move" : Str) = "joined") = False := by decide +kernel
@[simp] theorem w_move_new : (("move" : Str) = "new") = False := by decide +kernel
@[simp] theorem w_copy_put : (("copy" : Str) = "put") = False := by decide +kernel
@[simp] theorem w_copy_out : (("copy" : Str) = "out") = False := by decide +kernel
@[simp] theorem w_copy_move : (("copy" : Str) = "move") = False := by decide +kernel
@[simp] theorem w_copy_join : (("copy" : Str) = "join") = False := by decide +kernel
@[simp] theorem w_copy_number : (("copy" : Str) = "number") = False := by decide +kernel
@[simp] theorem w_copy_above : (("copy" : Str) = "above") = False := by decide +kernel
@[simp] theorem w_copy_below : (("copy" : Str) = "below") = False := by decide +kernel
@[simp] theorem w_copy_end : (("copy" : Str) = "end") = False := by decide +kernel
@[simp] theorem w_copy_label : (("copy" : Str) = "label") = False := by decide +kernel
@[simp] theorem w_copy_raw : (("copy" : Str) = "raw") = False := by decide +kernel
@[simp] theorem w_copy_shift : (("copy" : Str) = "shift") = False := by decide +kernel
@[simp] theorem w_copy_follow : (("copy" : Str) = "follow") = False := by decide +kernel
@[simp] theorem w_copy_old : (("copy" : Str) = "old") = False := by decide +kernel
@[simp] theorem w_copy_joined : (("copy" : Str) = "joined") = False := by decide +kernel
@[simp] theorem w_copy_new : (("copy" : Str) = "new") = False := by decide +kernel
@[simp] theorem w_join_put : (("join" : Str) = "put") = False := by decide +kernel
@[simp] theorem w_join_out : (("join" : Str) = "out") = False := by decide +kernel
@[simp] theorem w_join_move : (("join" : Str) = "move") = False := by decide +kernel
@[simp] theorem w_join_copy : (("join" : Str) = "copy") = False := by decide +kernel
@[simp] theorem w_join_number : (("join" : Str) = "number") = False := by decide +kernel
@[simp] theorem w_join_above : (("join" : Str) = "above") = False := by decide +kernel
@[simp] theorem w_join_below : (("join" : Str) = "below") = False := by decide +kernel
@[simp] theorem w_join_end : (("join" : Str) = "end") = False := by decide +kernel
@[simp] theorem w_join_label : (("join" : Str) = "label") = False := by decide +kernel
@[simp] theorem w_join_raw : (("join" : Str) = "raw") = False := by decide +kernel
@[simp] theorem w_join_shift : (("join" : Str) = "shift") = False := by decide +kernel
@[simp] theorem w_join_follow : (("join" : Str) = "follow") = False := by decide +kernel
@[simp] theorem w_join_old : (("join" : Str) = "old") = False := by decide +kernel
@[simp] theorem w_join_joined : (("join" : Str) = "joined") = False := by decide +kernel
@[simp] theorem w_join_new : (("join" : Str) = "new") = False := by decide +kernel
@[simp] theorem w_number_put : (("number" : Str) = "put") = False := by decide +kernel
@[simp] theorem w_number_out : (("number" : Str) = "out") = False := by decide +kernel
@[simp] theorem w_number_move : (("number" : Str) = "move") = False := by decide +kernel
@[simp] theorem w_number_copy : (("number" : Str) = "copy") = False := by decide +kernel
@[simp] theorem w_number_join : (("number" : Str) = "join") = False := by decide +kernel
@[simp] theorem w_number_above : (("number" : Str) = "above") = False := by decide +kernel
@[simp] theorem w_number_below : (("number" : Str) = "below") = False := by decide +kernel
@[simp] theorem w_number_end : (("number" : Str) = "end") = False := by decide +kernel
@[simp] theorem w_number_label : (("number" : Str) = "label") = False := by decide +kernel
@[simp] theorem w_number_raw : (("number" : Str) = "raw") = False := by decide +kernel
@[simp] theorem w_number_shift : (("number" : Str) = "shift") = False := by decide +kernel
@[simp] theorem w_number_follow : (("number" : Str) = "follow") = False := by decide +kernel
@[simp] theorem w_number_old : (("number" : Str) = "old") = False := by decide +kernel
@[simp] theorem w_number_joined : (("number" : Str) = "joined") = False := by decide +kernel
@[simp] theorem w_number_new : (("number" : Str) = "new") = False := by decide +kernel
@[simp] theorem w_above_put : (("above" : Str) = "put") = False := by decide +kernel
@[simp] theorem w_above_out : (("above" : Str) = "out") = False := by decide +kernel
@[simp] theorem w_above_move : (("above" : Str) = "move") = False := by decide +kernel
@[simp] theorem w_above_copy : (("above" : Str) = "copy") = False := by decide +kernel
@[simp] theorem w_above_join : (("above" : Str) = "join") = False := by decide +kernel
@[simp] theorem w_above_number : (("above" : Str) = "number") = False := by decide +kernel
@[simp] theorem w_above_below : (("above" : Str) = "below") = False := by decide +kernel
@[simp] theorem w_above_end : (("above" : Str) = "end") = False := by decide +kernel
@[simp] theorem w_above_label : (("above" : Str) = "label") = False := by decide +kernel
@[simp] theorem w_above_raw : (("above" : Str) = "raw") = False := by decide +kernel
@[simp] theorem w_above_shift : (("above" : Str) = "shift") = False := by decide +kernel
@[simp] theorem w_above_follow : (("above" : Str) = "follow") = False := by decide +kernel
@[simp] theorem w_above_old : (("above" : Str) = "old") = False := by decide +kernel
@[simp] theorem w_above_joined : (("above" : Str) = "joined") = False := by decide +kernel
@[simp] theorem w_above_new : (("above" : Str) = "new") = False := by decide +kernel
@[simp] theorem w_below_put : (("below" : Str) = "put") = False := by decide +kernel
@[simp] theorem w_below_out : (("below" : Str) = "out") = False := by decide +kernel
@[simp] theorem w_below_move : (("below" : Str) = "move") = False := by decide +kernel
@[simp] theorem w_below_copy : (("below" : Str) = "copy") = False := by decide +kernel
@[simp] theorem w_below_join : (("below" : Str) = "join") = False := by decide +kernel
@[simp] theorem w_below_number : (("below" : Str) = "number") = False := by decide +kernel
@[simp] theorem w_below_above : (("below" : Str) = "above") = False := by decide +kernel
@[simp] theorem w_below_end : (("below" : Str) = "end") = False := by decide +kernel
@[simp] theorem w_below_label : (("below" : Str) = "label") = False := by decide +kernel
@[simp] theorem w_below_raw : (("below" : Str) = "raw") = False := by decide +kernel
@[simp] theorem w_below_shift : (("below" : Str) = "shift") = False := by decide +kernel
@[simp] theorem w_below_follow : (("below" : Str) = "follow") = False := by decide +kernel
@[simp] theorem w_below_old : (("below" : Str) = "old") = False := by decide +kernel
@[simp] theorem w_below_joined : (("below" : Str) = "joined") = False := by decide +kernel
@[simp] theorem w_below_new : (("below" : Str) = "new") = False := by decide +kernel
@[simp] theorem w_end_put : (("end" : Str) = "put") = False := by decide +kernel
@[simp] theorem w_end_out : (("end" : Str) = "out") = False := by decide +kernel
@[simp] theorem w_end_move : (("end" : Str) = "move") = False := by decide +kernel
@[simp] theorem w_end_copy : (("end" : Str) = "copy") = False := by decide +kernel
@[simp] theorem w_end_join : (("end" : Str) = "join") = False := by decide +kernel
@[simp] theorem w_end_number : (("end" : Str) = "number") = False := by decide +kernel
@[simp] theorem w_end_above : (("end" : Str) = "above") = False := by decide +kernel
@[simp] theorem w_end_below : (("end" : Str) = "below") = False := by decide +kernel
@[simp] theorem w_end_label : (("end" : Str) = "label") = False := by decide +kernel
@[simp] theorem w_end_raw : (("end" : Str) = "raw") = False := by decide +kernel
@[simp] theorem w_end_shift : (("end" : Str) = "shift") = False := by decide +kernel
@[simp] theorem w_end_follow : (("end" : Str) = "follow") = False := by decide +kernel
@[simp] theorem w_end_old : (("end" : Str) = "old") = False := by decide +kernel
@[simp] theorem w_end_joined : (("end" : Str) = "joined") = False := by decide +kernel
@[simp] theorem w_end_new : (("end" : Str) = "new") = False := by decide +kernel
@[simp] theorem w_label_put : (("label" : Str) = "put") = False := by decide +kernel
@[simp] theorem w_label_out : (("label" : Str) = "out") = False := by decide +kernel
@[simp] theorem w_label_move : (("label" : Str) = "move") = False := by decide +kernel
@[simp] theorem w_label_copy : (("label" : Str) = "copy") = False := by decide +kernel
@[simp] theorem w_label_join : (("label" : Str) = "join") = False := by decide +kernel
@[simp] theorem w_label_number : (("label" : Str) = "number") = False := by decide +kernel
@[simp] theorem w_label_above : (("label" : Str) = "above") = False := by decide +kernel
@[simp] theorem w_label_below : (("label" : Str) = "below") = False := by decide +kernel
@[simp] theorem w_label_end : (("label" : Str) = "end") = False := by decide +kernel
@[simp] theorem w_label_raw : (("label" : Str) = "raw") = False := by decide +kernel
@[simp] theorem w_label_shift : (("label" : Str) = "shift") = False := by decide +kernel
@[simp] theorem w_label_follow : (("label" : Str) = "follow") = False := by decide +kernel
@[simp] theorem w_label_old : (("label" : Str) = "old") = False := by decide +kernel
@[simp] theorem w_label_joined : (("label" : Str) = "joined") = False := by decide +kernel
@[simp] theorem w_label_new : (("label" : Str) = "new") = False := by decide +kernel
@[simp] theorem w_raw_put : (("raw" : Str) = "put") = False := by decide +kernel
@[simp] theorem w_raw_out : (("raw" : Str) = "out") = False := by decide +kernel
@[simp] theorem w_raw_move : (("raw" : Str) = "move") = False := by decide +kernel
@[simp] theorem w_raw_copy : (("raw" : Str) = "copy") = False := by decide +kernel
@[simp] theorem w_raw_join : (("raw" : Str) = "join") = False := by decide +kernel
@[simp] theorem w_raw_number : (("raw" : Str) = "number") = False := by decide +kernel
@[simp] theorem w_raw_above : (("raw" : Str) = "above") = False := by decide +kernel
@[simp] theorem w_raw_below : (("raw" : Str) = "below") = False := by decide +kernel
@[simp] theorem w_raw_end : (("raw" : Str) = "end") = False := by decide +kernel
@[simp] theorem w_raw_label : (("raw" : Str) = "label") = False := by decide +kernel
@[simp] theorem w_raw_shift : (("raw" : Str) = "shift") = False := by decide +kernel
@[simp] theorem w_raw_follow : (("raw" : Str) = "follow") = False := by decide +kernel
@[simp] theorem w_raw_old : (("raw" : Str) = "old") = False := by decide +kernel
@[simp] theorem w_raw_joined : (("raw" : Str) = "joined") = False := by decide +kernel
@[simp] theorem w_raw_new : (("raw" : Str) = "new") = False := by decide +kernel
@[simp] theorem w_shift_put : (("shift" : Str) = "put") = False := by decide +kernel
@[simp] theorem w_shift_out : (("shift" : Str) = "out") = False := by decide +kernel
@[simp] theorem w_shift_move : (("shift" : Str) = "move") = False := by decide +kernel
@[simp] theorem w_shift_copy : (("shift" : Str) = "copy") = False := by decide +kernel
@[simp] theorem w_shift_join : (("shift" : Str) = "join") = False := by decide +kernel
@[simp] theorem w_shift_number : (("shift" : Str) = "number") = False := by decide +kernel
@[simp] theorem w_shift_above : (("shift" : Str) = "above") = False := by decide +kernel
@[simp] theorem w_shift_below : (("shift" : Str) = "below") = False := by decide +kernel
@[simp] theorem w_shift_end : (("shift" : Str) = "end") = False := by decide +kernel
@[simp] theorem w_shift_label : (("shift" : Str) = "label") = False := by decide +kernel
@[simp] theorem w_shift_raw : (("shift" : Str) = "raw") = False := by decide +kernel
@[simp] theorem w_shift_follow : (("shift" : Str) = "follow") = False := by decide +kernel
@[simp] theorem w_shift_old : (("shift" : Str) = "old") = False := by decide +kernel
@[simp] theorem w_shift_joined : (("shift" : Str) = "joined") = False := by decide +kernel
@[simp] theorem w_shift_new : (("shift" : Str) = "new") = False := by decide +kernel
@[simp] theorem w_follow_put : (("follow" : Str) = "put") = False := by decide +kernel
@[simp] theorem w_follow_out : (("follow" : Str) = "out") = False := by decide +kernel
@[simp] theorem w_follow_move : (("follow" : Str) = "move") = False := by decide +kernel
@[simp] theorem w_follow_copy : (("follow" : Str) = "copy") = False := by decide +kernel
@[simp] theorem w_follow_join : (("follow" : Str) = "join") = False := by decide +kernel
@[simp] theorem w_follow_number : (("follow" : Str) = "number") = False := by decide +kernel
@[simp] theorem w_follow_above : (("follow" : Str) = "above") = False := by decide +kernel
@[simp] theorem w_follow_below : (("follow" : Str) = "below") = False := by decide +kernel
@[simp] theorem w_follow_end : (("follow" : Str) = "end") = False := by decide +kernel
@[simp] theorem w_follow_label : (("follow" : Str) = "label") = False := by decide +kernel
@[simp] theorem w_follow_raw : (("follow" : Str) = "raw") = False := by decide +kernel
@[simp] theorem w_follow_shift : (("follow" : Str) = "shift") = False := by decide +kernel
@[simp] theorem w_follow_old : (("follow" : Str) = "old") = False := by decide +kernel
@[simp] theorem w_follow_joined : (("follow" : Str) = "joined") = False := by decide +kernel
@[simp] theorem w_follow_new : (("follow" : Str) = "new") = False := by decide +kernel
@[simp] theorem w_old_put : (("old" : Str) = "put") = False := by decide +kernel
@[simp] theorem w_old_out : (("old" : Str) = "out") = False := by decide +kernel
@[simp] theorem w_old_move : (("old" : Str) = "move") = False := by decide +kernel
@[simp] theorem w_old_copy : (("old" : Str) = "copy") = False := by decide +kernel
@[simp] theorem w_old_join : (("old" : Str) = "join") = False := by decide +kernel
@[simp] theorem w_old_number : (("old" : Str) = "number") = False := by decide +kernel
@[simp] theorem w_old_above : (("old" : Str) = "above") = False := by decide +kernel
@[simp] theorem w_old_below : (("old" : Str) = "below") = False := by decide +kernel
@[simp] theorem w_old_end : (("old" : Str) = "end") = False := by decide +kernel
@[simp] theorem w_old_label : (("old" : Str) = "label") = False := by decide +kernel
@[simp] theorem w_old_raw : (("old" : Str) = "raw") = False := by decide +kernel
@[simp] theorem w_old_shift : (("old" : Str) = "shift") = False := by decide +kernel
@[simp] theorem w_old_follow : (("old" : Str) = "follow") = False := by decide +kernel
@[simp] theorem w_old_joined : (("old" : Str) = "joined") = False := by decide +kernel
@[simp] theorem w_old_new : (("old" : Str) = "new") = False := by decide +kernel
@[simp] theorem w_joined_put : (("joined" : Str) = "put") = False := by decide +kernel
@[simp] theorem w_joined_out : (("joined" : Str) = "out") = False := by decide +kernel
@[simp] theorem w_joined_move : (("joined" : Str) = "move") = False := by decide +kernel
@[simp] theorem w_joined_copy : (("joined" : Str) = "copy") = False := by decide +kernel
@[simp] theorem w_joined_join : (("joined" : Str) = "join") = False := by decide +kernel
@[simp] theorem w_joined_number : (("joined" : Str) = "number") = False := by decide +kernel
@[simp] theorem w_joined_above : (("joined" : Str) = "above") = False := by decide +kernel
@[simp] theorem w_joined_below : (("joined" : Str) = "below") = False := by decide +kernel
@[simp] theorem w_joined_end : (("joined" : Str) = "end") = False := by decide +kernel
@[simp] theorem w_joined_label : (("joined" : Str) = "label") = False := by decide +kernel
@[simp] theorem w_joined_raw : (("joined" : Str) = "raw") = False := by decide +kernel
@[simp] theorem w_joined_shift : (("joined" : Str) = "shift") = False := by decide +kernel
@[simp] theorem w_joined_follow : (("joined" : Str) = "follow") = False := by decide +kernel
@[simp] theorem w_joined_old : (("joined" : Str) = "old") = False := by decide +kernel
@[simp] theorem w_joined_new : (("joined" : Str) = "new") = False := by decide +kernel
@[simp] theorem w_new_put : (("new" : Str) = "put") = False := by decide +kernel
@[simp] theorem w_new_out : (("new" : Str) = "out") = False := by decide +kernel
@[simp] theorem w_new_move : (("new" : Str) = "move") = False := by decide +kernel
@[simp] theorem w_new_copy : (("new" : Str) = "copy") = False := by decide +kernel
@[simp] theorem w_new_join : (("new" : Str) = "join") = False := by decide +kernel
@[simp] theorem w_new_number : (("new" : Str) = "number") = False := by decide +kernel
@[simp] theorem w_new_above : (("new" : Str) = "above") = False := by decide +kernel
@[simp] theorem w_new_below : (("new" : Str) = "below") = False := by decide +kernel
@[simp] theorem w_new_end : (("new" : Str) = "end") = False := by decide +kernel
@[simp] theorem w_new_label : (("new" : Str) = "label") = False := by decide +kernel
@[simp] theorem w_new_raw : (("new" : Str) = "raw") = False := by decide +kernel
@[simp] theorem w_new_shift : (("new" : Str) = "shift") = False := by decide +kernel
@[simp] theorem w_new_follow : (("new" : Str) = "follow") = False := by decide +kernel
@[simp] theorem w_new_old : (("new" : Str) = "old") = False := by decide +kernel
@[simp] theorem w_new_joined : (("new" : Str) = "joined") = False := by decide +kernel
end Pu

/-! text: QD -/
set_option Elab.async false
set_option linter.all false
set_option maxRecDepth 100000
namespace Pu
open PySem PySem.Spec L2 Sm Wk
def lp__law_number_0 : Sm.Env → M Out := (setV 3 fun ρ => (o2 mulA (vb ρ 3) (rt (.int 1009))))
theorem n__law_number : b__law_number = (seqS (setV 3 fun ρ => (rt (.int 1)))
  (seqS (fun ρ => bd (range1M (consM (o2 modI (c1 intD (consM (vb ρ 1) (rt []))) (rt (.int 24))) (rt []))) fun ds => forM (.one 4) lp__law_number_0 ds ρ)
  (seqS (setV 5 fun ρ => (o2 divI (o2 subI (vb ρ 0) (o2 powI (rt (.int 10)) (rt (.int 18)))) (vb ρ 3)))
  (seqS (fun ρ => bd (boolT (o2 gtI (vb ρ 5) (rt (.int 0)))) fun t => iteM t ((fun ρ => bd (o2 modI (c1 intD (consM (o2 modI (c1 intD (consM (vb ρ 5) (rt []))) (rt (.int 1009))) (rt []))) (vb ρ 2)) fun d => rt (.ret d)) ρ) (nextS ρ))
  (seqS (setV 6 fun ρ => (o2 modI (c1 intD (consM (vb ρ 0) (rt []))) (rt (.int 1000003))))
  (fun ρ => bd (o2 modI (c1 intD (consM (bd (consM (o2 mulA (o2 addA (vb ρ 6) (o2 mulA (rt (.int 977)) (vb ρ 1))) (o2 addA (o2 addA (vb ρ 6) (o2 mulA (rt (.int 31)) (vb ρ 1))) (rt (.int 5)))) (consM (o2 addA (o2 modI (c1 intD (consM (vb ρ 1) (rt []))) (rt (.int 9))) (rt (.int 1))) (consM (rt (.int 999983)) (rt [])))) fun ds => callM 3 m__law_draw ds) (rt []))) (vb ρ 2)) fun d => rt (.ret d))))))) := rfl
def ce__law_edits_0 : Sm.Env → M D := fun ρ => (tupM (consM (rt (.str "put")) (consM (vl ρ 2) (rt []))))
def ce__law_edits_1 : Sm.Env → M D := fun ρ => (tupM (consM (rt (.str "out")) (consM (vl ρ 2) (rt []))))
def ct__law_edits_0 : Sm.Env → M Bool := fun ρ => (boolT (o2 neD (vb ρ 3) (vb ρ 2)))
def ce__law_edits_2 : Sm.Env → M D := fun ρ => (tupM (consM (rt (.str "move")) (consM (vl ρ 2) (consM (vl ρ 3) (rt [])))))
def lp__law_edits_0 : Sm.Env → M Out := (setN 1 fun ρ => (o2N addL (vb ρ 1) (bd (bd (range1M (consM (vl ρ 0) (rt []))) fun ds => noX (lcM (fun d => bindD (.one 3) d (wipeE ρ [3])) ct__law_edits_0 ce__law_edits_2 ds)) fun ds => rt (.lst ds))))
def ce__law_edits_3 : Sm.Env → M D := fun ρ => (tupM (consM (rt (.str "copy")) (consM (vl ρ 2) (consM (vl ρ 3) (rt [])))))
def lp__law_edits_1 : Sm.Env → M Out := (setN 1 fun ρ => (o2N addL (vb ρ 1) (bd (bd (range1M (consM (o2 addA (vb ρ 0) (rt (.int 1))) (rt []))) fun ds => noX (lcM (fun d => bindD (.one 3) d (wipeE ρ [3])) (fun ρ => (rt true)) ce__law_edits_3 ds)) fun ds => rt (.lst ds))))
theorem n__law_edits : b__law_edits = (seqS (setN 1 fun ρ => (lstM (rt [])))
  (seqS (fun ρ => bd (range1M (consM (vl ρ 0) (rt []))) fun ds => forM (.one 2) lp__law_edits_1 ds ρ)
  (seqS (fun ρ => bd (range1M (consM (vl ρ 0) (rt []))) fun ds => forM (.one 2) lp__law_edits_0 ds ρ)
  (fun ρ => bd (bd (o2N addL (bd (o2N addL (vb ρ 1) (bd (bd (range1M (consM (vl ρ 0) (rt []))) fun ds => noX (lcM (fun d => bindD (.one 2) d (wipeE ρ [2])) (fun ρ => (rt true)) ce__law_edits_1 ds)) fun ds => rt (.lst ds))) fun ds => rt (.lst ds)) (bd (bd (range1M (consM (o2 addA (vb ρ 0) (rt (.int 1))) (rt []))) fun ds => noX (lcM (fun d => bindD (.one 2) d (wipeE ρ [2])) (fun ρ => (rt true)) ce__law_edits_0 ds)) fun ds => rt (.lst ds))) fun ds => rt (.lst ds)) fun d => rt (.ret d))))) := rfl
def ct__law_some_edits_0 : Sm.Env → M Bool := fun ρ => (boolT (bd (consM (o2 mulA (tupM (consM (tupM (consM (rt .non) (consM (tupM (rt [])) (rt [])))) (rt []))) (vb ρ 1)) (consM (vl ρ 6) (rt []))) fun ds => callM 2 m__law_can ds))
def ce__law_some_edits_0 : Sm.Env → M D := fun ρ => (vl ρ 6)
def lp__law_some_edits_0 : Sm.Env → M Out := (seqS (setN 5 fun ρ => (bd (bd (bd (consM (vl ρ 1) (rt [])) fun ds => callM 1 m__law_edits ds) seqM) fun ds => noX (lcM (fun d => bindD (.one 6) d (wipeE ρ [6])) ct__law_some_edits_0 ce__law_some_edits_0 ds)))
  (seqS (fun ρ => (setV 6 fun ρ => (bd (consM (vl ρ 0) (consM (vl ρ 5) (rt []))) fun ds => callM 2 m__law_pick ds)) (frzS [5] ρ))
  (seqS (appS 3 fun ρ => (vl ρ 6))
  (setV 1 fun ρ => (bd (consM (vl ρ 1) (consM (vl ρ 6) (rt []))) fun ds => callM 2 m__law_many_after ds)))))
theorem n__law_some_edits : b__law_some_edits = (seqS (setN 3 fun ρ => (lstM (rt [])))
  (seqS (fun ρ => bd (range1M (consM (bd (consM (vl ρ 0) (consM (o2 addA (vb ρ 2) (rt (.int 1))) (rt []))) fun ds => callM 2 m__law_next ds) (rt []))) fun ds => forM (.one 4) lp__law_some_edits_0 ds ρ)
  (fun ρ => bd (c1 tupleD (consM (vb ρ 3) (rt []))) fun d => rt (.ret d)))) := rfl
def ce_is_step_0 : Sm.Env → M D := fun ρ => (bd (consM (vl ρ 1) (rt [])) fun ds => callM 1 m_is_pointer ds)
theorem n_is_step : b_is_step = (seqS (fun ρ => bd (orT (notT (boolT (c1 isiD (consM (vb ρ 0) (consM (rt (.ty "tuple")) (rt [])))))) (orT (boolT (o2 neD (c1 lenD (consM (vb ρ 0) (rt []))) (rt (.int 2)))) (notT (orT (boolT (bd (o2 ixD (vb ρ 0) (rt (.int 0))) fun x => op1 (isN false) x)) (boolT (bd (consM (o2 ixD (vb ρ 0) (rt (.int 0))) (rt [])) fun ds => callM 1 m_is_label ds)))))) fun t => iteM t ((fun ρ => bd (rt (.bl false)) fun d => rt (.ret d)) ρ) (nextS ρ))
  (seqS (fun ρ => bd (orT (notT (boolT (c1 isiD (consM (o2 ixD (vb ρ 0) (rt (.int 1))) (consM (rt (.ty "tuple")) (rt [])))))) (boolT (o2 gtI (c1 lenD (consM (o2 ixD (vb ρ 0) (rt (.int 1))) (rt []))) (rt (.int 2))))) fun t => iteM t ((fun ρ => bd (rt (.bl false)) fun d => rt (.ret d)) ρ) (nextS ρ))
  (fun ρ => bd (c1 allD (consM (bd (bd (bd (o2 ixD (vb ρ 0) (rt (.int 1))) seqM) fun ds => noX (lcM (fun d => bindD (.one 1) d (wipeE ρ [1])) (fun ρ => (rt true)) ce_is_step_0 ds)) fun ds => rt (.lst ds)) (rt []))) fun d => rt (.ret d)))) := rfl
def ce_are_rows_0 : Sm.Env → M D := fun ρ => (bd (consM (vl ρ 1) (rt [])) fun ds => callM 1 m_is_step ds)
theorem n_are_rows : b_are_rows = (fun ρ => bd (andV (c1 isiD (consM (vb ρ 0) (consM (rt (.ty "tuple")) (rt [])))) (andV (o2 leI (c1 lenD (consM (vb ρ 0) (rt []))) (rt (.int 6))) (c1 allD (consM (bd (bd (bd (vl ρ 0) seqM) fun ds => noX (lcM (fun d => bindD (.one 1) d (wipeE ρ [1])) (fun ρ => (rt true)) ce_are_rows_0 ds)) fun ds => rt (.lst ds)) (rt []))))) fun d => rt (.ret d)) := rfl
def lp_counts_along_0 : Sm.Env → M Out := (seqS (setV 5 fun ρ => (bd (consM (o2 ixD (vb ρ 2) (negM (rt (.int 1)))) (consM (vl ρ 4) (rt []))) fun ds => callM 2 m_many_after ds))
  (seqS (fun ρ => bd (boolT (bd (vb ρ 5) fun x => op1 (isN false) x)) fun t => iteM t ((raiseF 2 "index" fun ρ => (consM (vl ρ 3) (rt []))) ρ) (nextS ρ))
  (appS 2 fun ρ => (vl ρ 5))))
theorem n_counts_along : b_counts_along = (seqS (setN 2 fun ρ => (lstM (consM (vl ρ 0) (rt []))))
  (seqS (fun ρ => bd (bd (vl ρ 1) fun d => bd (seqM d) fun ds => rt (enumL 0 ds)) fun ds => forM (.tup [3, 4]) lp_counts_along_0 ds ρ)
  (fun ρ => (fun ρ => bd (vl ρ 2) fun d => rt (.ret d)) (frzS [2] ρ)))) := rfl
def ct_carried_row_0 : Sm.Env → M Bool := fun ρ => (boolT (bd (vb ρ 6) fun x => op1 (isN true) x))
def ce_carried_row_0 : Sm.Env → M D := fun ρ => (vl ρ 6)
def ct_carried_row_1 : Sm.Env → M Bool := fun ρ => (boolT (bd (vb ρ 2) fun x => op1 (isN true) x))
def ce_carried_row_1 : Sm.Env → M D := fun ρ => (vl ρ 2)
def lp_carried_row_0 : Sm.Env → M Out := (seqS (setN 5 fun ρ => (lstM (appM (bd (vb ρ 5) starM) (consM (bd (consM (vl ρ 6) (consM (vl ρ 2) (consM (rt (.bl false)) (rt [])))) fun ds => callM 3 m_over ds) (rt [])))))
  (setV 2 fun ρ => (bd (consM (vl ρ 2) (consM (vl ρ 6) (consM (rt (.bl true)) (rt [])))) fun ds => callM 3 m_over ds)))
def lp_carried_row_1 : Sm.Env → M Out := (seqS (setN 5 fun ρ => (lstM (rt [])))
  (seqS (fun ρ => (fun ρ => bd (bd (vl ρ 4) seqM) fun ds => forM (.one 6) lp_carried_row_0 ds ρ) (frzS [4] ρ))
  (seqS (fun ρ => (setV 4 fun ρ => (vl ρ 5)) (frzS [5] ρ))
  (setN 3 fun ρ => (lstM (appM (bd (vb ρ 3) starM) (consM (vl ρ 2) (rt []))))))))
theorem n_carried_row : b_carried_row = (seqS (parS [3, 4] 2 fun ρ => (bd (lstM (rt [])) fun ds => bd (bd (lstM (appM (bd (vb ρ 1) starM) (rt []))) fun ds => bd (rt []) fun ss => rt (.own ds :: ss)) fun ss => rt (.own ds :: ss)))
  (seqS (fun ρ => bd (bd (vl ρ 0) seqM) fun ds => forM (.one 2) lp_carried_row_1 ds ρ)
  (fun ρ => bd (tupM (consM (bd (bd (bd (vb ρ 3) ownM) fun ds => noX (lcM (fun d => bindD (.one 2) d (wipeE ρ [2])) ct_carried_row_1 ce_carried_row_1 ds)) fun ds => rt (.lst ds)) (consM (bd (bd (bd (vb ρ 4) ownM) fun ds => noX (lcM (fun d => bindD (.one 6) d (wipeE ρ [6])) ct_carried_row_0 ce_carried_row_0 ds)) fun ds => rt (.lst ds)) (rt [])))) fun d => rt (.ret d)))) := rfl
def lp_can_do_0 : Sm.Env → M Out := (seqS (setV 0 fun ρ => (bd (consM (vl ρ 0) (consM (vl ρ 2) (rt []))) fun ds => callM 2 m_many_after ds))
  (fun ρ => bd (boolT (bd (vb ρ 0) fun x => op1 (isN false) x)) fun t => iteM t ((fun ρ => bd (rt (.bl false)) fun d => rt (.ret d)) ρ) (nextS ρ)))
theorem n_can_do : b_can_do = (seqS (fun ρ => bd (bd (vl ρ 1) seqM) fun ds => forM (.one 2) lp_can_do_0 ds ρ)
  (fun ρ => bd (rt (.bl true)) fun d => rt (.ret d))) := rfl
def ct__law_row_over_0 : Sm.Env → M Bool := fun ρ => (boolT (bd (vb ρ 6) fun x => op1 (isN true) x))
def ce__law_row_over_0 : Sm.Env → M D := fun ρ => (vl ρ 6)
def lp__law_row_over_0 : Sm.Env → M Out := (seqS (appS 5 fun ρ => (bd (consM (vl ρ 6) (consM (vl ρ 2) (consM (rt (.bl false)) (rt [])))) fun ds => callM 3 m__law_over ds))
  (setV 2 fun ρ => (bd (consM (vl ρ 2) (consM (vl ρ 6) (consM (rt (.bl true)) (rt [])))) fun ds => callM 3 m__law_over ds)))
def lp__law_row_over_1 : Sm.Env → M Out := (seqS (setN 5 fun ρ => (lstM (rt [])))
  (seqS (fun ρ => (fun ρ => bd (bd (vl ρ 4) seqM) fun ds => forM (.one 6) lp__law_row_over_0 ds ρ) (frzS [4] ρ))
  (seqS (fun ρ => (setV 4 fun ρ => (vl ρ 5)) (frzS [5] ρ))
  (fun ρ => bd (boolT (bd (vb ρ 2) fun x => op1 (isN true) x)) fun t => iteM t ((appS 3 fun ρ => (vl ρ 2)) ρ) (nextS ρ)))))
theorem n__law_row_over : b__law_row_over = (seqS (parS [3, 4] 2 fun ρ => (bd (lstM (rt [])) fun ds => bd (bd (c1N listD (consM (vb ρ 1) (rt []))) fun ds => bd (rt []) fun ss => rt (.own ds :: ss)) fun ss => rt (.own ds :: ss)))
  (seqS (fun ρ => bd (bd (vl ρ 0) seqM) fun ds => forM (.one 2) lp__law_row_over_1 ds ρ)
  (fun ρ => bd (tupM (consM (c1 tupleD (consM (vb ρ 3) (rt []))) (consM (c1 tupleD (consM (bd (bd (bd (vb ρ 4) ownM) fun ds => noX (lcM (fun d => bindD (.one 6) d (wipeE ρ [6])) ct__law_row_over_0 ce__law_row_over_0 ds)) fun ds => rt (.lst ds)) (rt []))) (rt [])))) fun d => rt (.ret d)))) := rfl
def lp__law_end_of_0 : Sm.Env → M Out := (setV 0 fun ρ => (bd (consM (vl ρ 0) (consM (vl ρ 2) (rt []))) fun ds => callM 2 m__law_many_after ds))
theorem n__law_end_of : b__law_end_of = (seqS (fun ρ => bd (bd (vl ρ 1) seqM) fun ds => forM (.one 2) lp__law_end_of_0 ds ρ)
  (fun ρ => bd (vl ρ 0) fun d => rt (.ret d))) := rfl
def lp__law_first_wrong_0 : Sm.Env → M Out := (seqS (fun ρ => bd (notT (boolT (bd (consM (o2 mulA (tupM (consM (tupM (consM (rt .non) (consM (tupM (rt [])) (rt [])))) (rt []))) (vb ρ 0)) (consM (o2 ixD (vb ρ 1) (vb ρ 2)) (rt []))) fun ds => callM 2 m__law_can ds))) fun t => iteM t ((fun ρ => bd (vl ρ 2) fun d => rt (.ret d)) ρ) (nextS ρ))
  (setV 0 fun ρ => (bd (consM (vl ρ 0) (consM (o2 ixD (vb ρ 1) (vb ρ 2)) (rt []))) fun ds => callM 2 m__law_many_after ds)))
theorem n__law_first_wrong : b__law_first_wrong = (seqS (fun ρ => bd (range1M (consM (c1 lenD (consM (vb ρ 1) (rt []))) (rt []))) fun ds => forM (.one 2) lp__law_first_wrong_0 ds ρ)
  (fun ρ => bd (rt .non) fun d => rt (.ret d))) := rfl
def lp_law_0 : Sm.Env → M Out := (seqS (setV 4 fun ρ => (bd (consM (vl ρ 2) (consM (rt (.int 5)) (rt []))) fun ds => callM 2 m__law_next ds))
  (seqS (parS [7, 8] 2 fun ρ => (bd (bd (consM (vl ρ 2) (consM (vl ρ 4) (consM (rt (.int 3)) (rt [])))) fun ds => callM 3 m__law_some_edits ds) fun d => bd (bd (bd (consM (vl ρ 2) (consM (vl ρ 4) (consM (rt (.int 3)) (rt [])))) fun ds => callM 3 m__law_some_edits ds) fun d => bd (rt []) fun ss => rt (.val d :: ss)) fun ss => rt (.val d :: ss)))
  (seqS (asgT (.tup [9, 10]) fun ρ => (tupM (consM (bd (consM (vl ρ 4) (consM (vl ρ 7) (rt []))) fun ds => callM 2 m_Edits_init ds) (consM (bd (consM (vl ρ 4) (consM (vl ρ 8) (rt []))) fun ds => callM 2 m_Edits_init ds) (rt [])))))
  (seqS (fun ρ => bd (boolT (o2 neD (askT [((tstL [(2, true)]), .tup "wrong" "index")] (fun ρ => tupM (consM (bd (vl ρ 1) fun d => bd (insM 0 d) fun d => noX (callM 1 m_Edits_many [d])) (consM (bd (vl ρ 1) fun d => bd (insM 0 d) fun d => noX (callM 1 m_Edits_acts [d])) (rt [])))) (bd (vl ρ 9) fun x => bd (vl ρ 10) fun y => bd (insM 0 x) fun x => bd (insM 0 y) fun y => callM 2 m_Edits_mod [x, y])) (bd (consM (vl ρ 4) (consM (vl ρ 7) (consM (vl ρ 8) (rt [])))) fun ds => callM 3 m__law_due ds))) fun t => iteM t ((fun ρ => bd (rt (.bl false)) fun d => rt (.ret d)) ρ) (nextS ρ))
  (seqS (fun ρ => bd (boolT (o2 neD (askT [((tstL [(2, true)]), .tup "wrong" "index")] (fun ρ => tupM (consM (bd (vl ρ 1) fun d => bd (insM 0 d) fun d => noX (callM 1 m_Edits_many [d])) (consM (bd (vl ρ 1) fun d => bd (insM 0 d) fun d => noX (callM 1 m_Edits_acts [d])) (rt [])))) (bd (vl ρ 10) fun x => bd (vl ρ 9) fun y => bd (insM 0 x) fun x => bd (insM 0 y) fun y => callM 2 m_Edits_mod [x, y])) (bd (consM (vl ρ 4) (consM (vl ρ 8) (consM (vl ρ 7) (rt [])))) fun ds => callM 3 m__law_due ds))) fun t => iteM t ((fun ρ => bd (rt (.bl false)) fun d => rt (.ret d)) ρ) (nextS ρ))
  (seqS (setV 5 fun ρ => (bd (consM (vl ρ 4) (rt [])) fun ds => callM 1 m_Edits_none ds))
  (seqS (fun ρ => bd (orT (boolT (bd (bd (vl ρ 9) fun x => bd (vl ρ 5) fun y => bd (insM 0 x) fun x => bd (insM 0 y) fun y => callM 2 m_Edits_mod [x, y]) fun x => bd (vl ρ 9) fun y => bd (insM 0 x) fun x => bd (anyM 1 y) fun y => bd (callM 2 m_Edits_eq [x, y]) fun d => bd (asB d) fun t => rt (.bl (!t)))) (orT (boolT (o2 neD (bd (bd (vl ρ 5) fun x => bd (vl ρ 9) fun y => bd (insM 0 x) fun x => bd (insM 0 y) fun y => callM 2 m_Edits_mod [x, y]) fun d => bd (insM 0 d) fun d => noX (callM 1 m_Edits_acts [d])) (tupM (rt [])))) (boolT (o2 neD (bd (bd (vl ρ 5) fun x => bd (vl ρ 9) fun y => bd (insM 0 x) fun x => bd (insM 0 y) fun y => callM 2 m_Edits_mod [x, y]) fun d => bd (insM 0 d) fun d => noX (callM 1 m_Edits_many [d])) (bd (vl ρ 9) fun d => bd (insM 0 d) fun d => noX (callM 1 m_Edits_abs [d])))))) fun t => iteM t ((fun ρ => bd (rt (.bl false)) fun d => rt (.ret d)) ρ) (nextS ρ))
  (seqS (setV 6 fun ρ => (bd (consM (o2 addA (vb ρ 4) (rt (.int 1))) (consM (tupM (rt [])) (rt []))) fun ds => callM 2 m_Edits_init ds))
  (fun ρ => bd (boolT (o2 neD (askT [((tstL [(2, true)]), .tup "wrong" "index")] (fun ρ => tupM (consM (bd (vl ρ 1) fun d => bd (insM 0 d) fun d => noX (callM 1 m_Edits_many [d])) (consM (bd (vl ρ 1) fun d => bd (insM 0 d) fun d => noX (callM 1 m_Edits_acts [d])) (rt [])))) (bd (vl ρ 9) fun x => bd (vl ρ 6) fun y => bd (insM 0 x) fun x => bd (insM 0 y) fun y => callM 2 m_Edits_mod [x, y])) (tupM (consM (rt (.str "wrong")) (consM (rt .non) (rt [])))))) fun t => iteM t ((fun ρ => bd (rt (.bl false)) fun d => rt (.ret d)) ρ) (nextS ρ))))))))))
def lp_law_1 : Sm.Env → M Out := (seqS (fun ρ => (fun ρ => bd (lstM (consM (vl ρ 0) (consM (vl ρ 1) (consM (rt (.int 0)) (rt []))))) fun ds => fun S => .ok (.nx (ρ.set 2 (.val (.ref S.length)))) (S ++ [.lst ds])) (frzS [0] ρ))
  (fun ρ => bd (range1M (consM (rt (.int 6)) (rt []))) fun ds => forM (.one 3) lp_law_0 ds ρ))
theorem n_law : b_law = (seqS (setN 0 fun ρ => (bd (vb ρ 0) fun x => bd (rt none) fun i => bd (bd (rt (.int 63)) asI) fun j => sliceL x i j))
  (seqS (fun ρ => bd (range3M (consM (rt (.int 0)) (consM (c1 max2D (consM (rt (.int 1)) (consM (c1 min2D (consM (rt (.int 12)) (consM (c1 lenD (consM (vb ρ 0) (rt []))) (rt [])))) (rt [])))) (consM (rt (.int 3)) (rt []))))) fun ds => forM (.one 1) lp_law_1 ds ρ)
  (fun ρ => bd (rt (.bl true)) fun d => rt (.ret d)))) := rfl
end Pu

/-! text: T1 -/
set_option Elab.async false
set_option linter.all false
set_option maxRecDepth 100000
set_option maxHeartbeats 4000000
namespace Pu
open PySem PySem.Spec L2 Sm Wk
inductive Ed where
  | put (g : Int)
  | out (i : Int)
  | move (i j : Int)
  | copy (i g : Int)
def Ed.d : Ed → D
  | .put g => .tup [.str "put", .int g]
  | .out i => .tup [.str "out", .int i]
  | .move i j => .tup [.str "move", .int i, .int j]
  | .copy i g => .tup [.str "copy", .int i, .int g]
def gapP (s g : Int) (b : Bool) : Int := if s < g ∨ (g = s ∧ b = true) then g + 1 else g
def gapO (s g : Int) : Int := if s < g then g - 1 else g
def gapOver : Ed → Int → Bool → Int
  | .put s, g, b => gapP s g b
  | .copy _ s, g, b => gapP s g b
  | .out s, g, _ => gapO s g
  | .move i j, g, b => gapP j (gapO i g) b
theorem gap_out (fu : Nat) (s g : Int) (b : Bool) (S : Sto) : m_gap_over (fu + 1) [(Ed.out s).d, .int g, .bl b] S = .ok (.int (gapO s g)) S := by
  unfold m_gap_over gapO
  by_cases h : s < g <;> simp [Ed.d, h]
theorem gap_put (fu : Nat) (s g : Int) (b : Bool) (S : Sto) : m_gap_over (fu + 1) [(Ed.put s).d, .int g, .bl b] S = .ok (.int (gapP s g b)) S := by
  unfold m_gap_over gapP
  by_cases h : s < g
  · simp [Ed.d, h]
  · by_cases h2 : g = s
    · cases b <;> simp [Ed.d, h, h2]
    · simp [Ed.d, h, h2]
theorem gap_copy (fu : Nat) (i s g : Int) (b : Bool) (S : Sto) : m_gap_over (fu + 1) [(Ed.copy i s).d, .int g, .bl b] S = .ok (.int (gapP s g b)) S := by
  unfold m_gap_over gapP
  by_cases h : s < g
  · simp [Ed.d, h]
  · by_cases h2 : g = s
    · cases b <;> simp [Ed.d, h, h2]
    · simp [Ed.d, h, h2]
theorem gap_over (e : Ed) (g : Int) (b : Bool) (S : Sto) : m_gap_over 2 [e.d, .int g, .bl b] S = .ok (.int (gapOver e g b)) S := by
  cases e with
  | put s => exact gap_put 1 s g b S
  | out s => exact gap_out 1 s g b S
  | copy i s => exact gap_copy 1 i s g b S
  | move i j =>
    have h1 := gap_out 0 i g b S
    have h2 := gap_put 0 j (gapO i g) b S
    simp only [Ed.d] at h1 h2
    show m_gap_over (1 + 1) _ _ = _
    unfold m_gap_over
    simp [Ed.d, h1, h2, gapOver]
end Pu
namespace Pu
open PySem PySem.Spec L2 Sm Wk
@[simp] theorem d_put (g : Int) : (Ed.put g).d = .tup [.str "put", .int g] := rfl
@[simp] theorem d_out (g : Int) : (Ed.out g).d = .tup [.str "out", .int g] := rfl
@[simp] theorem d_move (i j : Int) : (Ed.move i j).d = .tup [.str "move", .int i, .int j] := rfl
@[simp] theorem d_copy (i g : Int) : (Ed.copy i g).d = .tup [.str "copy", .int i, .int g] := rfl
def intO : Option Int → D
  | none => .non
  | some i => .int i
def edO : Option Ed → D
  | none => .non
  | some e => e.d
def stepO (s a : Int) : Option Int := if a = s then none else if s < a then some (a - 1) else some a
def stepP (s a : Int) : Int := if s ≤ a then a + 1 else a
def stepOver : Ed → Int → Option Int
  | .put s, a => some (stepP s a)
  | .copy _ s, a => some (stepP s a)
  | .out s, a => stepO s a
  | .move i j, a => if a = i then some j else some (stepP j (if i < a then a - 1 else a))
theorem step_over (e : Ed) (a : Int) (S : Sto) : m_step_over [e.d, .int a] S = .ok (intO (stepOver e a)) S := by
  unfold m_step_over b_step_over
  cases e with
  | put s =>
    unfold stepOver stepP
    by_cases h : s ≤ a <;> simp [h, intO]
  | copy i s =>
    unfold stepOver stepP
    by_cases h : s ≤ a <;> simp [h, intO]
  | out s =>
    unfold stepOver stepO
    by_cases h : a = s
    · simp [h, intO]
    · by_cases h2 : s < a <;> simp [h, h2, intO]
  | move i j =>
    unfold stepOver stepP
    by_cases h : a = i
    · simp [h, intO]
    · by_cases h2 : i < a
      · by_cases h3 : j ≤ a - 1 <;> simp [h, h2, h3, intO]
      · by_cases h3 : j ≤ a <;> simp [h, h2, h3, intO]
def moveOver (i j : Int) (o : Ed) (b : Bool) : Option Ed := match stepOver o i with
  | none => none
  | some a => let g := gapOver o (if j < i then j else j + 1) b
    let s := if g ≤ a then g else g - 1
    if s = a then none else some (.move a s)
theorem move_over (i j : Int) (o : Ed) (b : Bool) (S : Sto) : m_move_over [(Ed.move i j).d, o.d, .bl b] S = .ok (edO (moveOver i j o b)) S := by
  unfold m_move_over b_move_over moveOver
  have h1 := fun S => step_over o i S
  have h2 := fun g S => gap_over o g b S
  cases hs : stepOver o i with
  | none =>
    simp only [hs, intO] at h1
    simp [h1, edO]
  | some a =>
    simp only [hs, intO] at h1
    by_cases hj : j < i
    · by_cases hg : gapOver o j b ≤ a
      · by_cases he : gapOver o j b = a <;> simp [h1, h2, hj, hg, he, edO]
      · by_cases he : gapOver o j b - 1 = a <;> simp [h1, h2, hj, hg, he, edO]
    · by_cases hg : gapOver o (j + 1) b ≤ a
      · by_cases he : gapOver o (j + 1) b = a <;> simp [h1, h2, hj, hg, he, edO]
      · by_cases he : gapOver o (j + 1) b - 1 = a <;> simp [h1, h2, hj, hg, he, edO]
def over : Ed → Ed → Bool → Option Ed
  | .put g, o, b => some (.put (gapOver o g b))
  | .move i j, o, b => moveOver i j o b
  | .out i, o, _ => (stepOver o i).map .out
  | .copy i g, o, b => (stepOver o i).map fun a => .copy a (gapOver o g b)
theorem over_ok (e o : Ed) (b : Bool) (S : Sto) : m_over [e.d, o.d, .bl b] S = .ok (edO (over e o b)) S := by
  have h2 := fun g S => gap_over o g b S
  have ne : ∀ (f : Ed) (S : Sto) (c : Bool), isN c f.d S = some (.bl c) := fun f S c => by cases f <;> rfl
  unfold m_over b_over
  cases e with
  | put g => simp [h2, ne, over, edO]
  | move i j =>
    have h3 := move_over i j o b S
    simp only [d_move] at h3
    simp [h3, ne, over]
  | out i =>
    have h1 := fun S => step_over o i S
    cases hs : stepOver o i with
    | none =>
      simp only [hs, intO] at h1
      simp [h1, ne, over, edO, hs]
    | some a =>
      simp only [hs, intO] at h1
      simp [h1, ne, over, edO, hs]
  | copy i g =>
    have h1 := fun S => step_over o i S
    cases hs : stepOver o i with
    | none =>
      simp only [hs, intO] at h1
      simp [h1, ne, over, edO, hs]
    | some a =>
      simp only [hs, intO] at h1
      simp [h1, h2, ne, over, edO, hs]
end Pu
namespace Pu
open PySem PySem.Spec L2 Sm Wk
theorem law_gap_over (e : Ed) (g : Int) (b : Bool) (S : Sto) : m__law_gap_over [e.d, .int g, .bl b] S = .ok (.int (gapOver e g b)) S := by
  unfold m__law_gap_over b__law_gap_over
  cases e with
  | put s =>
    unfold gapOver gapP
    by_cases h2 : g = s
    · cases b <;> simp [h2]
    · by_cases h : s < g <;> simp [h, h2]
  | out s =>
    unfold gapOver gapO
    by_cases h : s < g <;> simp [h]
  | copy i s =>
    unfold gapOver gapP
    by_cases h2 : g = s
    · cases b <;> simp [h2]
    · by_cases h : s < g <;> simp [h, h2]
  | move i s =>
    unfold gapOver gapP gapO
    by_cases hi : i < g
    · by_cases h2 : g - 1 = s
      · cases b <;> simp [hi, h2]
      · by_cases h : s < g - 1 <;> simp [hi, h, h2]
    · by_cases h2 : g = s
      · have hi2 : ¬ i < s := by rw [← h2]; exact hi
        cases b <;> simp [hi, hi2, h2]
      · by_cases h : s < g <;> simp [hi, h, h2]
end Pu
namespace Pu
open PySem PySem.Spec L2 Sm Wk
theorem law_step_over (e : Ed) (a : Int) (S : Sto) : m__law_step_over [e.d, .int a] S = .ok (intO (stepOver e a)) S := by
  unfold m__law_step_over b__law_step_over
  cases e with
  | put s =>
    unfold stepOver stepP
    by_cases h : s ≤ a <;> simp [h, intO]
  | copy i s =>
    unfold stepOver stepP
    by_cases h : s ≤ a <;> simp [h, intO]
  | out s =>
    unfold stepOver stepO
    by_cases h : a = s
    · simp [h, intO]
    · by_cases h2 : s < a <;> simp [h, h2, intO]
  | move i j =>
    unfold stepOver stepP
    by_cases h : a = i
    · simp [h, intO]
    · by_cases h2 : i < a
      · by_cases h3 : j ≤ a - 1 <;> simp [h, h2, h3, intO]
      · by_cases h3 : j ≤ a <;> simp [h, h2, h3, intO]
theorem isN_ed (f : Ed) (S : Sto) (c : Bool) : isN c f.d S = some (.bl c) := by cases f <;> rfl
/-- over, for what may be nothing -/
def ov : Option Ed → Option Ed → Bool → Option Ed
  | some a, some c, b => over a c b
  | x, _, _ => x
theorem over_o (x y : Option Ed) (b : Bool) (S : Sto) : m_over [edO x, edO y, .bl b] S = .ok (edO (ov x y b)) S := by
  cases x with
  | none =>
    unfold m_over b_over
    cases y <;> simp [edO, ov]
  | some a =>
    cases y with
    | none =>
      have ne := isN_ed a
      unfold m_over b_over
      simp [edO, ov, ne]
    | some c => exact over_ok a c b S
theorem law_over_ok (e o : Ed) (b : Bool) (S : Sto) : m__law_over [e.d, o.d, .bl b] S = .ok (edO (over e o b)) S := by
  have h2 := fun g S => law_gap_over o g b S
  have ne := isN_ed
  unfold m__law_over b__law_over
  cases e with
  | put g => simp [h2, ne, over, edO]
  | move i j =>
    have h1 := fun S => law_step_over o i S
    have e0 : over (.move i j) o b = moveOver i j o b := rfl
    rw [e0]
    unfold moveOver
    cases hs : stepOver o i with
    | none =>
      simp only [hs, intO] at h1
      simp [h1, ne, edO]
    | some a =>
      simp only [hs, intO] at h1
      by_cases hj : j < i
      · by_cases hg : gapOver o j b ≤ a
        · by_cases he : gapOver o j b = a <;> simp [h1, h2, ne, hj, hg, he, edO]
        · by_cases he : gapOver o j b - 1 = a <;> simp [h1, h2, ne, hj, hg, he, edO]
      · by_cases hg : gapOver o (j + 1) b ≤ a
        · by_cases he : gapOver o (j + 1) b = a <;> simp [h1, h2, ne, hj, hg, he, edO]
        · by_cases he : gapOver o (j + 1) b - 1 = a <;> simp [h1, h2, ne, hj, hg, he, edO]
  | out i =>
    have h1 := fun S => law_step_over o i S
    cases hs : stepOver o i with
    | none =>
      simp only [hs, intO] at h1
      simp [h1, ne, over, edO, hs]
    | some a =>
      simp only [hs, intO] at h1
      simp [h1, ne, over, edO, hs]
  | copy i g =>
    have h1 := fun S => law_step_over o i S
    cases hs : stepOver o i with
    | none =>
      simp only [hs, intO] at h1
      simp [h1, ne, over, edO, hs]
    | some a =>
      simp only [hs, intO] at h1
      simp [h1, h2, ne, over, edO, hs]
theorem law_over_o (x y : Option Ed) (b : Bool) (S : Sto) : m__law_over [edO x, edO y, .bl b] S = .ok (edO (ov x y b)) S := by
  cases x with
  | none =>
    unfold m__law_over b__law_over
    cases y <;> simp [edO, ov]
  | some a =>
    cases y with
    | none =>
      have ne := isN_ed a
      unfold m__law_over b__law_over
      simp [edO, ov, ne]
    | some c => exact law_over_ok a c b S
end Pu

/-! text: T2 -/
set_option Elab.async false
set_option linter.all false
set_option maxRecDepth 100000
set_option maxHeartbeats 4000000
namespace Sm
open PySem PySem.Spec L2
theorem rep_flat (x : D) : ∀ n : Nat, (List.replicate n [x]).flatten = List.replicate n x
  | 0 => rfl
  | n + 1 => by rw [List.replicate_succ, List.replicate_succ, List.flatten_cons, rep_flat x n]; rfl
theorem e_mulTn (x : D) (k : Nat) (h2 : k ≤ 1000) (S : Sto) : mulA (.tup [x]) (.int (k : Int)) S = some (.tup (List.replicate k x)) := by
  by_cases h0 : k = 0
  · subst h0; rfl
  by_cases h1 : k = 1
  · subst h1; rfl
  · have e2 : mulT1 (.tup [x]) (.int (k : Int)) S = none := by
      unfold mulT1
      split
      · rename_i h3; injection h3 with h3; omega
      · rfl
    have e3 : mulT (.tup [x]) (.int (k : Int)) S = some (.tup (List.replicate k x)) := by
      show (if _ = true then _ else _) = _
      rw [if_pos]
      · congr 2
        simpa using rep_flat x k
      · simp [isNil]; omega
    show orD mulI (orD mulT1 (orD mulT mulT0)) (.tup [x]) (.int (k : Int)) S = _
    unfold orD
    have e1 : mulI (.tup [x]) (.int (k : Int)) S = none := rfl
    rw [e1]
    simp only [e2, e3]
@[simp] theorem e_raiseF (k : Nat) (f : Str) (m : Env → M (List D)) (ρ : Env) (S : Sto) : raiseF k f m ρ S = match m ρ S with
  | .ok [d] S' => .err k [.str f, d] S'
  | .ok _ _ => .stuck
  | .err k fs S' => .err k fs S'
  | .stuck => .stuck := by
  unfold raiseF bd
  cases m ρ S with
  | ok ds S' => match ds with
    | [] => rfl
    | [d] => rfl
    | _ :: _ :: _ => rfl
  | err k fs S' => rfl
  | stuck => rfl
theorem chain_le (i m : Int) (f : D → D → Sto → Option D) (b : Bool) (x y z : M D) (S : Sto) (hx : x S = .ok (.int 0) S) (hy : y S = .ok (.int i) S) (hz : z S = .ok (.int m) S) (hf : f (.int i) (.int m) S = some (.bl b)) : chainM leI f x y z S = .ok (.bl (decide (0 ≤ i) && b)) S :=
  e_chain hx hy hz (e_le 0 i S) hf
end Sm
namespace Pu
open PySem PySem.Spec L2 Sm Wk
def natO : Option Nat → D
  | none => .non
  | some i => .int (i : Int)
def Ed.can (m : Int) : Ed → Bool
  | .put g => decide (m < 6) && (decide (0 ≤ g) && decide (g ≤ m))
  | .out i => decide (0 ≤ i) && decide (i < m)
  | .move i j => (decide (0 ≤ i) && decide (i < m)) && ((decide (0 ≤ j) && decide (j < m)) && !decide (i = j))
  | .copy i g => (decide (0 ≤ i) && decide (i < m)) && (decide (m < 6) && (decide (0 ≤ g) && decide (g ≤ m)))
/-- how many steps there are after it -/
def Ed.aft (m : Nat) : Ed → Nat
  | .put _ => m + 1
  | .copy _ _ => m + 1
  | .out _ => m - 1
  | .move _ _ => m
theorem aft_le {m : Nat} {e : Ed} (h : e.can m = true) (hm : m ≤ 6) : e.aft m ≤ 6 := by
  cases e with
  | put g => simp [Ed.can] at h; simp [Ed.aft]; omega
  | copy i g => simp [Ed.can] at h; simp [Ed.aft]; omega
  | out i => simp [Ed.aft]; omega
  | move i j => exact hm
theorem is_number (i lo hi : Int) (S : Sto) : m_is_number [.int i, .int lo, .int hi] S = .ok (.bl (decide (lo ≤ i) && decide (i ≤ hi))) S := by
  have h := e_chain (f := leI) (g := leI) (x := vb [.val (.int i), .val (.int lo), .val (.int hi)] 1) (y := vb [.val (.int i), .val (.int lo), .val (.int hi)] 0) (z := vb [.val (.int i), .val (.int lo), .val (.int hi)] 2) (S := S) (a := .int lo) (b := .int i) (d := .int hi) (t := decide (lo ≤ i)) (u := decide (i ≤ hi)) (by simp) (by simp) (by simp) (e_le lo i S) (e_le i hi S)
  unfold m_is_number b_is_number
  simp [h]
theorem lt_pred (i m : Int) : decide (i ≤ m - 1) = decide (i < m) := decide_eq_decide.mpr (by omega)
theorem is_edit_t (ds : List D) (e : Ed) (S : Sto) : m_is_edit [.tup ds, e.d] S = .ok (.bl (e.can ds.length)) S := by
  have hn := is_number
  unfold m_is_edit b_is_edit
  cases e with
  | put g =>
    have h := hn g 0 ds.length
    simp only [Ed.can]
    generalize (decide (0 ≤ g) && decide (g ≤ (ds.length : Int))) = b at *
    by_cases h1 : (ds.length : Int) < 6 <;> simp [h, h1]
  | out i =>
    have h := hn i 0 (ds.length - 1)
    rw [lt_pred] at h
    simp only [Ed.can]
    generalize (decide (0 ≤ i) && decide (i < (ds.length : Int))) = b at *
    simp [h]
  | move i j =>
    have h := hn i 0 (ds.length - 1)
    have k := hn j 0 (ds.length - 1)
    rw [lt_pred] at h k
    simp only [Ed.can]
    generalize (decide (0 ≤ i) && decide (i < (ds.length : Int))) = b at *
    generalize (decide (0 ≤ j) && decide (j < (ds.length : Int))) = c at *
    cases b <;> cases c <;> simp [h, k]
  | copy i g =>
    have h := hn i 0 (ds.length - 1)
    have k := hn g 0 ds.length
    rw [lt_pred] at h
    simp only [Ed.can]
    generalize (decide (0 ≤ i) && decide (i < (ds.length : Int))) = b at *
    generalize (decide (0 ≤ g) && decide (g ≤ (ds.length : Int))) = c at *
    cases b <;> by_cases h1 : (ds.length : Int) < 6 <;> simp [h, k, h1]
theorem law_can (ds : List D) (e : Ed) (S : Sto) : m__law_can [.tup ds, e.d] S = .ok (.bl (e.can ds.length)) S := by
  unfold m__law_can b__law_can
  cases e with
  | put g =>
    have k := fun S => chain_le g ds.length leI (decide (g ≤ ds.length)) (rt (.int 0)) (o2 ixD (vb [.val (.tup ds), .val (Ed.put g).d, .val (.int ds.length)] 1) (rt (.int 1))) (vb [.val (.tup ds), .val (Ed.put g).d, .val (.int ds.length)] 2) S rfl (by simp) (by simp) (e_le _ _ _)
    simp only [d_put] at k
    simp only [Ed.can]
    generalize (decide (0 ≤ g) && decide (g ≤ (ds.length : Int))) = b at *
    by_cases h1 : (ds.length : Int) < 6 <;> simp [k, h1]
  | out i =>
    have k := fun S => chain_le i ds.length ltI (decide (i < ds.length)) (rt (.int 0)) (o2 ixD (vb [.val (.tup ds), .val (Ed.out i).d, .val (.int ds.length)] 1) (rt (.int 1))) (vb [.val (.tup ds), .val (Ed.out i).d, .val (.int ds.length)] 2) S rfl (by simp) (by simp) (e_lt _ _ _)
    simp only [d_out] at k
    simp only [Ed.can]
    generalize (decide (0 ≤ i) && decide (i < (ds.length : Int))) = b at *
    cases b <;> simp [k]
  | move i j =>
    have k := fun S => chain_le i ds.length ltI (decide (i < ds.length)) (rt (.int 0)) (o2 ixD (vb [.val (.tup ds), .val (Ed.move i j).d, .val (.int ds.length)] 1) (rt (.int 1))) (vb [.val (.tup ds), .val (Ed.move i j).d, .val (.int ds.length)] 2) S rfl (by simp) (by simp) (e_lt _ _ _)
    have k2 := fun S => chain_le j ds.length ltI (decide (j < ds.length)) (rt (.int 0)) (o2 ixD (vb [.val (.tup ds), .val (Ed.move i j).d, .val (.int ds.length)] 1) (rt (.int 2))) (vb [.val (.tup ds), .val (Ed.move i j).d, .val (.int ds.length)] 2) S rfl (by simp) (by simp) (e_lt _ _ _)
    simp only [d_move] at k k2
    simp only [Ed.can]
    generalize (decide (0 ≤ i) && decide (i < (ds.length : Int))) = b at *
    generalize (decide (0 ≤ j) && decide (j < (ds.length : Int))) = c at *
    cases b <;> cases c <;> simp [k, k2]
  | copy i g =>
    have k := fun S => chain_le i ds.length ltI (decide (i < ds.length)) (rt (.int 0)) (o2 ixD (vb [.val (.tup ds), .val (Ed.copy i g).d, .val (.int ds.length)] 1) (rt (.int 1))) (vb [.val (.tup ds), .val (Ed.copy i g).d, .val (.int ds.length)] 2) S rfl (by simp) (by simp) (e_lt _ _ _)
    have k2 := fun S => chain_le g ds.length leI (decide (g ≤ ds.length)) (rt (.int 0)) (o2 ixD (vb [.val (.tup ds), .val (Ed.copy i g).d, .val (.int ds.length)] 1) (rt (.int 2))) (vb [.val (.tup ds), .val (Ed.copy i g).d, .val (.int ds.length)] 2) S rfl (by simp) (by simp) (e_le _ _ _)
    simp only [d_copy] at k k2
    simp only [Ed.can]
    generalize (decide (0 ≤ i) && decide (i < (ds.length : Int))) = b at *
    generalize (decide (0 ≤ g) && decide (g ≤ (ds.length : Int))) = c at *
    cases b <;> by_cases h1 : (ds.length : Int) < 6 <;> simp [k, k2, h1]
theorem many_after (m : Nat) (hm : m ≤ 6) (e : Ed) (S : Sto) : m_many_after [.int (m : Int), e.d] S = .ok (natO (if e.can m = true then some (e.aft m) else none)) S := by
  have hr := fun S => e_mulTn PLAIN_D m (by omega) S
  have h := fun S => is_edit_t (List.replicate m PLAIN_D) e S
  rw [List.length_replicate] at h
  have hpos : ∀ i, e = .out i → e.can m = true → 1 ≤ m := fun i he hc => by
    subst he
    simp [Ed.can] at hc
    omega
  unfold m_many_after b_many_after
  generalize List.replicate m PLAIN_D = rs at *
  cases hc : e.can m with
  | false =>
    rw [hc] at h
    simp [hr, h, natO]
  | true =>
    rw [hc] at h
    cases e with
    | put g => simp only [d_put] at h ⊢; simp [hr, h, natO, Ed.aft]
    | copy i g => simp only [d_copy] at h ⊢; simp [hr, h, natO, Ed.aft]
    | move i j => simp only [d_move] at h ⊢; simp [hr, h, natO, Ed.aft]
    | out i =>
      have := hpos i rfl hc
      have e1 : (m : Int) - 1 = ((m - 1 : Nat) : Int) := by omega
      simp only [d_out] at h ⊢; simp [hr, h, natO, Ed.aft, e1]
theorem law_many_after (m : Nat) (e : Ed) (hc : e.can m = true) (S : Sto) : m__law_many_after [.int (m : Int), e.d] S = .ok (.int (e.aft m : Int)) S := by
  unfold m__law_many_after b__law_many_after
  cases e with
  | put g => simp [Ed.aft]
  | copy i g => simp [Ed.aft]
  | move i j => simp [Ed.aft]
  | out i =>
    simp [Ed.can] at hc
    have e1 : (m : Int) + -1 = ((m - 1 : Nat) : Int) := by omega
    simp [Ed.aft, e1]
end Pu

/-! text: T3 -/
set_option Elab.async false
set_option linter.all false
set_option maxRecDepth 100000
set_option maxHeartbeats 4000000
namespace Pu
open PySem PySem.Spec L2 Sm Wk
def wrongAt : Nat → Nat → List Ed → Option Nat
  | _, _, [] => none
  | m, k, e :: es => if e.can m = true then wrongAt (e.aft m) (k + 1) es else some k
def endM : Nat → List Ed → Nat
  | m, [] => m
  | m, e :: es => endM (e.aft m) es
theorem wrong_t {m k : Nat} {e : Ed} {es : List Ed} (h : e.can m = true) : wrongAt m k (e :: es) = wrongAt (e.aft m) (k + 1) es := by
  show (if e.can m = true then _ else _) = _
  rw [if_pos h]
theorem wrong_f {m k : Nat} {e : Ed} {es : List Ed} (h : e.can m = false) : wrongAt m k (e :: es) = some k := by
  show (if e.can m = true then _ else _) = _
  rw [if_neg (by simp [h])]
theorem wrong_none : ∀ {es : List Ed} {m k j : Nat}, wrongAt m k es = none → wrongAt m j es = none
  | [], _, _, _, _ => rfl
  | e :: es, m, k, j, h => by
    cases hc : e.can m with
    | true =>
      rw [wrong_t hc] at h ⊢
      exact wrong_none h
    | false => rw [wrong_f hc] at h; cases h
theorem end_le : ∀ {es : List Ed} {m k : Nat}, wrongAt m k es = none → m ≤ 6 → endM m es ≤ 6
  | [], _, _, _, hm => hm
  | e :: es, m, k, h, hm => by
    cases hc : e.can m with
    | true =>
      rw [wrong_t hc] at h
      exact end_le (es := es) (m := e.aft m) (k := k + 1) h (aft_le hc hm)
    | false => rw [wrong_f hc] at h; cases h
theorem cast1 (k : Nat) : (k : Int) + 1 = ((k + 1 : Nat) : Int) := by omega
def actsD (es : List Ed) : D := .tup (es.map Ed.d)
def fwE (m : Nat) (es : List Ed) (x : Slot) : Sm.Env := [.val (.int (m : Int)), .val (actsD es), x]
theorem fw_step (es0 : List Ed) (k m : Nat) (e : Ed) (hm : m ≤ 6) (hk : es0[k]? = some e) (S : Sto) : lp__law_first_wrong_0 (fwE m es0 (.val (.int (k : Int)))) S = if e.can m = true then .ok (.nx (fwE (e.aft m) es0 (.val (.int (k : Int))))) S else .ok (.ret (.int (k : Int))) S := by
  have hat : L2.atI (es0.map Ed.d) (k : Int) = some e.d := e_atS (by simp [hk])
  have hmul := fun S => e_mulTn (.tup [.non, .tup []]) m (by omega) S
  have hcan := law_can (List.replicate m (.tup [.non, .tup []])) e
  rw [List.length_replicate] at hcan
  have haf := law_many_after m e
  unfold lp__law_first_wrong_0 fwE actsD
  generalize List.replicate m (D.tup [.non, .tup []]) = rs at *
  generalize e.aft m = m2 at *
  cases hc : e.can m with
  | true =>
    rw [hc] at hcan
    have haf := haf hc
    simp [hmul, hat, hcan, haf]
  | false =>
    rw [hc] at hcan
    simp [hmul, hat, hcan]
theorem fw_loop (es0 : List Ed) (S : Sto) : ∀ (es : List Ed) (k m : Nat) (x : Slot), (∀ i : Nat, es0[k + i]? = es[i]?) → m ≤ 6 →
    (wrongAt m k es = none → ∃ y, Sm.forM (.one 2) lp__law_first_wrong_0 (rng (k : Int) es.length) (fwE m es0 x) S = .ok (.nx (fwE (endM m es) es0 y)) S) ∧
    ∀ j, wrongAt m k es = some j → Sm.forM (.one 2) lp__law_first_wrong_0 (rng (k : Int) es.length) (fwE m es0 x) S = .ok (.ret (.int (j : Int))) S
  | [], k, m, x, _, _ => ⟨fun _ => ⟨x, by simp [rng, endM]⟩, fun j h => by cases h⟩
  | e :: es, k, m, x, hv, hm => by
    have hk : es0[k]? = some e := by simpa using hv 0
    have st := fw_step es0 k m e hm hk S
    have eb : bindD (.one 2) (.int (k : Int)) (fwE m es0 x) = some (fwE m es0 (.val (.int (k : Int)))) := rfl
    rw [List.length_cons, rng_succ, e_forC, eb]
    dsimp only
    rw [st]
    cases hc : e.can m with
    | true =>
      rw [if_pos rfl, wrong_t hc]
      dsimp only
      rw [cast1]
      exact fw_loop es0 S es (k + 1) (e.aft m) _ (fun i => by rw [show k + 1 + i = k + (i + 1) by omega, hv (i + 1)]; simp) (aft_le hc hm)
    | false =>
      rw [if_neg (by simp), wrong_f hc]
      refine ⟨fun h => (by cases h), fun j h => ?_⟩
      cases h
      rfl
theorem law_first_wrong (m : Nat) (hm : m ≤ 6) (es : List Ed) (hl : es.length ≤ 1000) (S : Sto) : m__law_first_wrong [.int (m : Int), actsD es] S = .ok (natO (wrongAt m 0 es)) S := by
  obtain ⟨h1, h2⟩ := fw_loop es S es 0 m .no (fun i => by simp) hm
  have hr : ∀ S, range1M (consM (c1 lenD (consM (vb (fwE m es .no) 1) (rt []))) (rt [])) S = .ok (rng 0 es.length) S := fun S => e_range1 (n := es.length) (by simp [fwE, actsD]) (by omega)
  unfold m__law_first_wrong
  rw [n__law_first_wrong]
  simp only [Int.natCast_zero] at h1 h2
  cases hw : wrongAt m 0 es with
  | none =>
    obtain ⟨y, h1⟩ := h1 hw
    unfold fwE at h1 hr
    simp [hr, h1, natO]
  | some j =>
    have h2 := h2 j hw
    unfold fwE at h2 hr
    simp [hr, h2, natO]
/-! how many there are at the end -/
theorem eo_loop (a : D) (S : Sto) : ∀ (es : List Ed) (k m : Nat) (x : Slot), wrongAt m k es = none → ∃ y, Sm.forM (.one 2) lp__law_end_of_0 (es.map Ed.d) [.val (.int (m : Int)), .val a, x] S = .ok (.nx [.val (.int (endM m es : Int)), .val a, y]) S
  | [], k, m, x, _ => ⟨x, by simp [endM]⟩
  | e :: es, k, m, x, h => by
    cases hc : e.can m with
    | true =>
      rw [wrong_t hc] at h
      obtain ⟨y, ih⟩ := eo_loop a S es (k + 1) (e.aft m) (.val e.d) h
      have haf := law_many_after m e hc
      refine ⟨y, ?_⟩
      have eb : bindD (.one 2) e.d [.val (.int (m : Int)), .val a, x] = some [.val (.int (m : Int)), .val a, .val e.d] := rfl
      have st : lp__law_end_of_0 [.val (.int (m : Int)), .val a, .val e.d] S = .ok (.nx [.val (.int (e.aft m : Int)), .val a, .val e.d]) S := by
        unfold lp__law_end_of_0
        simp [haf]
      rw [List.map_cons, e_forC, eb]
      dsimp only
      rw [st]
      exact ih
    | false => rw [wrong_f hc] at h; cases h
theorem law_end_of (m : Nat) (es : List Ed) (h : wrongAt m 0 es = none) (S : Sto) : m__law_end_of [.int (m : Int), actsD es] S = .ok (.int (endM m es : Int)) S := by
  obtain ⟨y, hl⟩ := eo_loop (actsD es) S es 0 m .no h
  unfold m__law_end_of
  rw [n__law_end_of]
  have hs : seqM (actsD es) S = .ok (es.map Ed.d) S := rfl
  simp [hs, hl]
/-! the program's own -/
theorem cd_loop (a : D) (S : Sto) : ∀ (es : List Ed) (k m : Nat) (x : Slot), m ≤ 6 → (wrongAt m k es = none → ∃ y0 y2, Sm.forM (.one 2) lp_can_do_0 (es.map Ed.d) [.val (.int (m : Int)), .val a, x] S = .ok (.nx [y0, .val a, y2]) S) ∧
    ∀ j, wrongAt m k es = some j → Sm.forM (.one 2) lp_can_do_0 (es.map Ed.d) [.val (.int (m : Int)), .val a, x] S = .ok (.ret (.bl false)) S
  | [], k, m, x, _ => ⟨fun _ => ⟨.val (.int (m : Int)), x, by simp⟩, fun j h => by cases h⟩
  | e :: es, k, m, x, hm => by
    have hma := many_after m hm e
    have eb : bindD (.one 2) e.d [.val (.int (m : Int)), .val a, x] = some [.val (.int (m : Int)), .val a, .val e.d] := rfl
    rw [List.map_cons, e_forC, eb]
    dsimp only
    cases hc : e.can m with
    | true =>
      rw [hc, if_pos rfl] at hma
      have st : lp_can_do_0 [.val (.int (m : Int)), .val a, .val e.d] S = .ok (.nx [.val (.int (e.aft m : Int)), .val a, .val e.d]) S := by
        unfold lp_can_do_0
        simp [hma, natO]
      rw [st, wrong_t hc]
      exact cd_loop a S es (k + 1) (e.aft m) _ (aft_le hc hm)
    | false =>
      rw [hc, if_neg (by simp)] at hma
      have st : lp_can_do_0 [.val (.int (m : Int)), .val a, .val e.d] S = .ok (.ret (.bl false)) S := by
        unfold lp_can_do_0
        simp [hma, natO]
      rw [st, wrong_f hc]
      exact ⟨fun h => (by cases h), fun j h => rfl⟩
theorem can_do (m : Nat) (hm : m ≤ 6) (es : List Ed) (a : D) (ha : ∀ S, seqM a S = .ok (es.map Ed.d) S) (S : Sto) : m_can_do [.int (m : Int), a] S = .ok (.bl (wrongAt m 0 es).isNone) S := by
  obtain ⟨h1, h2⟩ := cd_loop a S es 0 m .no hm
  unfold m_can_do
  rw [n_can_do]
  cases hw : wrongAt m 0 es with
  | none =>
    obtain ⟨y0, y2, h1⟩ := h1 hw
    simp [ha, h1]
  | some j =>
    have h2 := h2 j hw
    simp [ha, h2]
def cnts : Nat → List Ed → List Nat
  | m, [] => [m]
  | m, e :: es => m :: cnts (e.aft m) es
theorem cnts_last : ∀ (es : List Ed) (m : Nat), ∃ l, cnts m es = l ++ [endM m es]
  | [], m => ⟨[], rfl⟩
  | e :: es, m => by
    obtain ⟨l, h⟩ := cnts_last es (e.aft m)
    exact ⟨m :: l, by simp [cnts, h, endM]⟩
theorem cnts_len : ∀ (es : List Ed) (m : Nat), (cnts m es).length = es.length + 1
  | [], m => rfl
  | e :: es, m => by simp [cnts, cnts_len es]
def intN (n : Nat) : D := .int (n : Int)
theorem last_at (l : List Nat) (m : Nat) : L2.atI ((l ++ [m]).map intN) (-1) = some (.int (m : Int)) := by
  rw [List.map_append]
  exact L2.atI_last _ _
def caE (x0 x1 : Slot) (f : List Nat) (x3 x4 x5 : Slot) : Sm.Env := [x0, x1, .own (f.map intN), x3, x4, x5]
theorem ca_loop (x0 x1 : Slot) (S : Sto) : ∀ (es : List Ed) (k m : Nat) (l : List Nat) (x3 x4 x5 : Slot), m ≤ 6 → l.length + es.length ≤ 1000 →
    (wrongAt m k es = none → ∃ y3 y4 y5, Sm.forM (.tup [3, 4]) lp_counts_along_0 (enumL k (es.map Ed.d)) (caE x0 x1 (l ++ [m]) x3 x4 x5) S = .ok (.nx (caE x0 x1 (l ++ cnts m es) y3 y4 y5)) S) ∧
    ∀ j, wrongAt m k es = some j → Sm.forM (.tup [3, 4]) lp_counts_along_0 (enumL k (es.map Ed.d)) (caE x0 x1 (l ++ [m]) x3 x4 x5) S = .err 2 [.str "index", .int (j : Int)] S
  | [], k, m, l, x3, x4, x5, _, _ => ⟨fun _ => ⟨x3, x4, x5, by simp [enumL, cnts]⟩, fun j h => by cases h⟩
  | e :: es, k, m, l, x3, x4, x5, hm, hl => by
    simp only [List.length_cons] at hl
    have hma := many_after m hm e
    have hla := last_at l m
    have hlen : (l ++ [m]).length < 100000 := by simp; omega
    have eb : bindD (.tup [3, 4]) (.tup [.int (k : Int), e.d]) (caE x0 x1 (l ++ [m]) x3 x4 x5) = some (caE x0 x1 (l ++ [m]) (.val (.int (k : Int))) (.val e.d) x5) := rfl
    rw [List.map_cons, enumL, e_forC, eb]
    dsimp only
    cases hc : e.can m with
    | true =>
      rw [hc, if_pos rfl] at hma
      have st : lp_counts_along_0 (caE x0 x1 (l ++ [m]) (.val (.int (k : Int))) (.val e.d) x5) S = .ok (.nx (caE x0 x1 ((l ++ [m]) ++ [e.aft m]) (.val (.int (k : Int))) (.val e.d) (.val (.int (e.aft m : Int))))) S := by
        unfold lp_counts_along_0 caE
        rw [List.map_append (l₂ := [e.aft m])]
        generalize l ++ [m] = l2 at *
        simp [hma, hla, natO, hlen, intN]
      rw [st, wrong_t hc]
      have ih := ca_loop x0 x1 S es (k + 1) (e.aft m) (l ++ [m]) (.val (.int (k : Int))) (.val e.d) (.val (.int (e.aft m : Int))) (aft_le hc hm) (by simp; omega)
      have e2 : l ++ cnts m (e :: es) = (l ++ [m]) ++ cnts (e.aft m) es := by simp [cnts]
      rw [e2]
      exact ih
    | false =>
      rw [hc, if_neg (by simp)] at hma
      have st : lp_counts_along_0 (caE x0 x1 (l ++ [m]) (.val (.int (k : Int))) (.val e.d) x5) S = .err 2 [.str "index", .int (k : Int)] S := by
        unfold lp_counts_along_0 caE
        generalize l ++ [m] = l2 at *
        simp [hma, hla, natO]
      rw [st, wrong_f hc]
      refine ⟨fun h => (by cases h), fun j h => ?_⟩
      cases h
      rfl
theorem counts_along (m : Nat) (hm : m ≤ 6) (es : List Ed) (hl : es.length ≤ 500) (S : Sto) : m_counts_along [.int (m : Int), actsD es] S = match wrongAt m 0 es with
    | none => .ok (.lst ((cnts m es).map intN)) S
    | some j => .err 2 [.str "index", .int (j : Int)] S := by
  obtain ⟨h1, h2⟩ := ca_loop (.val (.int (m : Int))) (.val (actsD es)) S es 0 m [] .no .no .no hm (by simp; omega)
  have hs : ∀ S, seqM (actsD es) S = .ok (es.map Ed.d) S := fun _ => rfl
  simp only [caE, List.nil_append] at h1 h2
  have e1 : [m].map intN = [.int (m : Int)] := rfl
  rw [e1] at h1 h2
  unfold m_counts_along
  rw [n_counts_along]
  cases hw : wrongAt m 0 es with
  | none =>
    obtain ⟨y3, y4, y5, h1⟩ := h1 hw
    generalize (cnts m es).map intN = cs at *
    generalize actsD es = ad at *
    generalize es.map Ed.d = ds at *
    simp [hs, h1, frzS, frzE]
  | some j =>
    have h2 := h2 j hw
    generalize actsD es = ad at *
    generalize es.map Ed.d = ds at *
    simp [hs, h2]
/-- a row of edits -/
def rowI (m : Nat) (es : List Ed) : D := .ins 0 [.lst ((cnts m es).map intN), actsD es, .int (m : Int)]
theorem edits_init (m : Nat) (hm : m ≤ 6) (es : List Ed) (hl : es.length ≤ 500) (S : Sto) : m_Edits_init [.int (m : Int), actsD es] S = match wrongAt m 0 es with
    | none => .ok (rowI m es) S
    | some j => .err 2 [.str "index", .int (j : Int)] S := by
  have h1 := is_number (m : Int) 0 6
  have e1 : decide ((0 : Int) ≤ (m : Int)) = true := by simp
  have e2 : decide ((m : Int) ≤ 6) = true := by simp; omega
  rw [e1, e2] at h1
  have h2 := counts_along m hm es hl
  have h3 : ∀ S, isiD [actsD es, .ty "tuple"] S = some (.bl true) := fun _ => rfl
  unfold m_Edits_init initM b_Edits_init rowI
  cases hw : wrongAt m 0 es with
  | none =>
    rw [hw] at h2
    generalize (cnts m es).map intN = cs at *
    generalize actsD es = ad at *
    simp [h1, h2, h3, iniM, iniE, selfM, allS]
  | some j =>
    rw [hw] at h2
    generalize actsD es = ad at *
    simp [h1, h2, h3, iniM, iniE, selfM, allS]
end Pu

/-! text: T4 -/
set_option Elab.async false
set_option linter.all false
set_option maxRecDepth 100000
set_option maxHeartbeats 4000000
namespace Sm
open PySem PySem.Spec L2
@[simp] theorem e_appM (m n : M (List D)) (S : Sto) : appM m n S = match m S with
  | .ok xs S1 => (match n S1 with
    | .ok ys S2 => .ok (xs ++ ys) S2
    | .err k fs S' => .err k fs S'
    | .stuck => .stuck)
  | .err k fs S' => .err k fs S'
  | .stuck => .stuck := by
  unfold appM bd rt
  cases m S with
  | ok xs S1 =>
    dsimp only
    cases n S1 <;> rfl
  | err k fs S' => rfl
  | stuck => rfl
@[simp] theorem e_seqL (ds : List D) (S : Sto) : seqM (.lst ds) S = .ok ds S := rfl
@[simp] theorem e_seqT (ds : List D) (S : Sto) : seqM (.tup ds) S = .ok ds S := rfl
@[simp] theorem e_ownL (ds : List D) (S : Sto) : ownM (.lst ds) S = .ok ds S := rfl
@[simp] theorem e_starL (ds : List D) (S : Sto) : starM (.lst ds) S = .ok ds S := rfl
@[simp] theorem e_starT (ds : List D) (S : Sto) : starM (.tup ds) S = .ok ds S := rfl
end Sm
namespace Pu
open PySem PySem.Spec L2 Sm Wk
/-- one edit over a row, and the row over it -/
def inF : Option Ed → List (Option Ed) → List (Option Ed) × Option Ed
  | e, [] => ([], e)
  | e, o :: os => (ov o e false :: (inF (ov e o true) os).1, (inF (ov e o true) os).2)
def outF : List Ed → List (Option Ed) → List (Option Ed) × List (Option Ed)
  | [], rest => ([], rest)
  | e :: es, rest => ((inF (some e) rest).2 :: (outF es (inF (some e) rest).1).1, (outF es (inF (some e) rest).1).2)
theorem inF_len : ∀ (os : List (Option Ed)) (e : Option Ed), (inF e os).1.length = os.length
  | [], _ => rfl
  | o :: os, e => by simp [inF, inF_len os]
theorem outF_len : ∀ (es : List Ed) (rest : List (Option Ed)), (outF es rest).1.length = es.length ∧ (outF es rest).2.length = rest.length
  | [], rest => ⟨rfl, rfl⟩
  | e :: es, rest => by
    obtain ⟨h1, h2⟩ := outF_len es (inF (some e) rest).1
    exact ⟨by simp [outF, h1], by simp [outF, h2, inF_len]⟩
theorem isN_o (x : Option Ed) (S : Sto) : isN true (edO x) S = some (.bl x.isSome) := by
  cases x with
  | none => rfl
  | some e => exact isN_ed e S true
theorem some_map (l : List (Option Ed)) : (l.filter Option.isSome).map edO = (l.filterMap id).map Ed.d := by
  induction l with
  | nil => rfl
  | cons x l ih =>
    cases x with
    | none => simpa using ih
    | some e => simpa [edO] using ih
/-! the program's -/
theorem ci_loop (x0 x1 x3 x4 : Slot) (S : Sto) : ∀ (os acc : List (Option Ed)) (e : Option Ed) (x6 : Slot), acc.length + os.length ≤ 1000 →
    ∃ y6, Sm.forM (.one 6) lp_carried_row_0 (os.map edO) [x0, x1, .val (edO e), x3, x4, .own (acc.map edO), x6] S = .ok (.nx [x0, x1, .val (edO (inF e os).2), x3, x4, .own ((acc ++ (inF e os).1).map edO), y6]) S
  | [], acc, e, x6, _ => ⟨x6, by simp [inF]⟩
  | o :: os, acc, e, x6, hl => by
    simp only [List.length_cons] at hl
    obtain ⟨y6, ih⟩ := ci_loop x0 x1 x3 x4 S os (acc ++ [ov o e false]) (ov e o true) (.val (edO o)) (by simp; omega)
    have h1 := over_o o e false
    have h2 := over_o e o true
    have hlen : (acc ++ [ov o e false]).length ≤ 100000 := by simp; omega
    have eb : bindD (.one 6) (edO o) [x0, x1, .val (edO e), x3, x4, .own (acc.map edO), x6] = some [x0, x1, .val (edO e), x3, x4, .own (acc.map edO), .val (edO o)] := rfl
    have st : lp_carried_row_0 [x0, x1, .val (edO e), x3, x4, .own (acc.map edO), .val (edO o)] S = .ok (.nx [x0, x1, .val (edO (ov e o true)), x3, x4, .own ((acc ++ [ov o e false]).map edO), .val (edO o)]) S := by
      unfold lp_carried_row_0
      rw [List.map_append]
      have hl3 : acc.length + 1 ≤ 100000 := by omega
      simp [h1, h2, hl3]
    refine ⟨y6, ?_⟩
    rw [List.map_cons, e_forC, eb]
    dsimp only
    rw [st]
    dsimp only
    rw [ih]
    simp [inF]
theorem co_loop (x0 x1 : Slot) (S : Sto) : ∀ (es : List Ed) (acc rest : List (Option Ed)) (x2 x4 x5 x6 : Slot), acc.length + es.length ≤ 500 → rest.length ≤ 500 → (x4 = .own (rest.map edO) ∨ x4 = .val (.lst (rest.map edO))) →
    ∃ y2 y4 y5 y6, Sm.forM (.one 2) lp_carried_row_1 (es.map Ed.d) [x0, x1, x2, .own (acc.map edO), x4, x5, x6] S = .ok (.nx [x0, x1, y2, .own ((acc ++ (outF es rest).1).map edO), y4, y5, y6]) S ∧ (y4 = .own ((outF es rest).2.map edO) ∨ y4 = .val (.lst ((outF es rest).2.map edO)))
  | [], acc, rest, x2, x4, x5, x6, _, _, h4 => ⟨x2, x4, x5, x6, by simp [outF], h4⟩
  | e :: es, acc, rest, x2, x4, x5, x6, hl, hr, h4 => by
    simp only [List.length_cons] at hl
    obtain ⟨z6, hin⟩ := ci_loop x0 x1 (.own (acc.map edO)) (.val (.lst (rest.map edO))) S rest [] (some e) x6 (by simp; omega)
    have hlen : (acc ++ [(inF (some e) rest).2]).length ≤ 100000 := by simp; omega
    simp only [List.map_nil, List.nil_append] at hin
    have hed : edO (some e) = e.d := rfl
    rw [hed] at hin
    have eb : bindD (.one 2) e.d [x0, x1, x2, .own (acc.map edO), x4, x5, x6] = some [x0, x1, .val e.d, .own (acc.map edO), x4, x5, x6] := rfl
    have hf4 : frzS [4] [x0, x1, .val e.d, .own (acc.map edO), x4, .own [], x6] = [x0, x1, .val e.d, .own (acc.map edO), .val (.lst (rest.map edO)), .own [], x6] := by
      rcases h4 with rfl | rfl <;> rfl
    have st : lp_carried_row_1 [x0, x1, .val e.d, .own (acc.map edO), x4, x5, x6] S = .ok (.nx [x0, x1, .val (edO (inF (some e) rest).2), .own ((acc ++ [(inF (some e) rest).2]).map edO), .val (.lst ((inF (some e) rest).1.map edO)), .val (.lst ((inF (some e) rest).1.map edO)), z6]) S := by
      unfold lp_carried_row_1
      rw [e_seqS]
      have s1 : setN 5 (fun ρ => (lstM (rt []))) [x0, x1, .val e.d, .own (acc.map edO), x4, x5, x6] S = .ok (.nx [x0, x1, .val e.d, .own (acc.map edO), x4, .own [], x6]) S := by simp
      rw [s1]
      dsimp only
      rw [e_seqS, hf4]
      rw [List.map_append]
      simp only [List.length_append, List.length_cons, List.length_nil] at hlen
      clear h4 hf4 s1 eb
      generalize (inF (some e) rest).1.map edO = lt at *
      generalize hlast : (inF (some e) rest).2 = la at *
      have hb : (acc.map edO).length + 1 ≤ 100000 := by rw [List.length_map]; omega
      simp only [List.map_cons, List.map_nil]
      generalize acc.map edO = ac at *
      generalize rest.map edO = rs at *
      simp [hin, frzS, frzE, hb]
    obtain ⟨y2, y4, y5, y6, ih, hy⟩ := co_loop x0 x1 S es (acc ++ [(inF (some e) rest).2]) (inF (some e) rest).1 (.val (edO (inF (some e) rest).2)) _ _ z6 (by simp; omega) (by rw [inF_len]; exact hr) (.inr rfl)
    refine ⟨y2, y4, y5, y6, ?_, hy⟩
    rw [List.map_cons, e_forC, eb]
    dsimp only
    rw [st]
    dsimp only
    rw [ih]
    simp [outF]
def fnd (es os : List Ed) : List Ed := (outF es (os.map some)).1.filterMap id
def rst (es os : List Ed) : List Ed := (outF es (os.map some)).2.filterMap id
theorem fnd_len (es os : List Ed) : (fnd es os).length ≤ es.length := by
  have h1 := List.length_filterMap_le id (outF es (os.map some)).1
  have h2 := (outF_len es (os.map some)).1
  unfold fnd
  omega
theorem rst_len (es os : List Ed) : (rst es os).length ≤ os.length := by
  have h1 := List.length_filterMap_le id (outF es (os.map some)).2
  have h2 := (outF_len es (os.map some)).2
  rw [List.length_map] at h2
  unfold rst
  omega
theorem map_some (os : List Ed) : (os.map some).map edO = os.map Ed.d := by simp [edO]
theorem carried_row (es os : List Ed) (h1 : es.length ≤ 100) (h2 : os.length ≤ 100) (S : Sto) : m_carried_row [actsD es, actsD os] S = .ok (.tup [.lst ((fnd es os).map Ed.d), .lst ((rst es os).map Ed.d)]) S := by
  obtain ⟨y2, y4, y5, y6, hl, hy⟩ := co_loop (.val (actsD es)) (.val (actsD os)) S es [] (os.map some) .no (.own (os.map Ed.d)) .no .no (by simp; omega) (by simp; omega) (.inl (by rw [map_some]))
  obtain ⟨F, hF⟩ : ∃ F, (outF es (os.map some)).1 = F := ⟨_, rfl⟩
  obtain ⟨G, hG⟩ : ∃ G, (outF es (os.map some)).2 = G := ⟨_, rfl⟩
  have lF : F.length ≤ 100 := by have := (outF_len es (os.map some)).1; rw [hF] at this; omega
  have lG : G.length ≤ 100 := by have := (outF_len es (os.map some)).2; rw [hG, List.length_map] at this; omega
  unfold fnd rst
  rw [hF] at hl ⊢
  rw [hG] at hy ⊢
  have f1 := fun (x2 x5 x6 : Slot) => lc_mapF (S := S) (bnd := fun d => bindD (.one 2) d (wipeE [.val (actsD es), .val (actsD os), x2, .own (F.map edO), y4, x5, x6] [2])) (t := ct_carried_row_1) (e := ce_carried_row_1) (f := edO) (g := edO) (p := Option.isSome) F fun e _ =>
    ⟨[.val (actsD es), .val (actsD os), .val (edO e), .own (F.map edO), y4, x5, x6], rfl, by unfold ct_carried_row_1; simp [isN_o], fun _ => by unfold ce_carried_row_1; simp⟩
  have f2 := fun (x2 x5 x6 : Slot) => lc_mapF (S := S) (bnd := fun d => bindD (.one 6) d (wipeE [.val (actsD es), .val (actsD os), x2, .own (F.map edO), y4, x5, x6] [6])) (t := ct_carried_row_0) (e := ce_carried_row_0) (f := edO) (g := edO) (p := Option.isSome) G fun e _ =>
    ⟨[.val (actsD es), .val (actsD os), x2, .own (F.map edO), y4, x5, .val (edO e)], rfl, by unfold ct_carried_row_0; simp [isN_o], fun _ => by unfold ce_carried_row_0; simp⟩
  rw [some_map] at f1 f2
  have hs : ∀ S, seqM (actsD es) S = .ok (es.map Ed.d) S := fun _ => rfl
  have hst : ∀ S, starM (actsD os) S = .ok (os.map Ed.d) S := fun _ => rfl
  have hlen : os.length ≤ 100000 := by omega
  simp only [List.map_nil, List.nil_append] at hl
  unfold m_carried_row
  rw [n_carried_row]
  generalize actsD es = ad at *
  generalize actsD os = ao at *
  generalize (F.filterMap id).map Ed.d = fd at *
  generalize (G.filterMap id).map Ed.d = gd at *
  rcases hy with rfl | rfl <;> simp [hst, hlen, hs, hl, f1, f2]
end Pu

/-! text: T5 -/
set_option Elab.async false
set_option linter.all false
set_option maxRecDepth 100000
set_option maxHeartbeats 4000000
namespace Sm
open PySem PySem.Spec L2
@[simp] theorem e_c1N (f : List D → Sto → Option (List D)) (m : M (List D)) (S : Sto) : c1N f m S = match m S with
  | .ok ds S' => (match f ds S' with
    | some l => .ok l S'
    | none => .stuck)
  | .err k fs S' => .err k fs S'
  | .stuck => .stuck := by
  unfold c1N bd
  cases m S <;> rfl
end Sm
namespace Pu
open PySem PySem.Spec L2 Sm Wk
theorem li_loop (x0 x1 x3 x4 : Slot) (S : Sto) : ∀ (os acc : List (Option Ed)) (e : Option Ed) (x6 : Slot), acc.length + os.length ≤ 1000 →
    ∃ y6, Sm.forM (.one 6) lp__law_row_over_0 (os.map edO) [x0, x1, .val (edO e), x3, x4, .own (acc.map edO), x6] S = .ok (.nx [x0, x1, .val (edO (inF e os).2), x3, x4, .own ((acc ++ (inF e os).1).map edO), y6]) S
  | [], acc, e, x6, _ => ⟨x6, by simp [inF]⟩
  | o :: os, acc, e, x6, hl => by
    simp only [List.length_cons] at hl
    obtain ⟨y6, ih⟩ := li_loop x0 x1 x3 x4 S os (acc ++ [ov o e false]) (ov e o true) (.val (edO o)) (by simp; omega)
    have h1 := law_over_o o e false
    have h2 := law_over_o e o true
    have hlen : (acc.map edO).length < 100000 := by simp; omega
    have eb : bindD (.one 6) (edO o) [x0, x1, .val (edO e), x3, x4, .own (acc.map edO), x6] = some [x0, x1, .val (edO e), x3, x4, .own (acc.map edO), .val (edO o)] := rfl
    have st : lp__law_row_over_0 [x0, x1, .val (edO e), x3, x4, .own (acc.map edO), .val (edO o)] S = .ok (.nx [x0, x1, .val (edO (ov e o true)), x3, x4, .own ((acc ++ [ov o e false]).map edO), .val (edO o)]) S := by
      unfold lp__law_row_over_0
      rw [List.map_append]
      simp only [List.map_cons, List.map_nil]
      generalize acc.map edO = ac at *
      simp [h1, h2, hlen]
    refine ⟨y6, ?_⟩
    rw [List.map_cons, e_forC, eb]
    dsimp only
    rw [st]
    dsimp only
    rw [ih]
    simp [inF]
theorem lo_loop (x0 x1 : Slot) (S : Sto) : ∀ (es : List Ed) (acc : List Ed) (rest : List (Option Ed)) (x2 x4 x5 x6 : Slot), acc.length + es.length ≤ 500 → rest.length ≤ 500 → (x4 = .own (rest.map edO) ∨ x4 = .val (.lst (rest.map edO))) →
    ∃ y2 y4 y5 y6, Sm.forM (.one 2) lp__law_row_over_1 (es.map Ed.d) [x0, x1, x2, .own (acc.map Ed.d), x4, x5, x6] S = .ok (.nx [x0, x1, y2, .own ((acc ++ (outF es rest).1.filterMap id).map Ed.d), y4, y5, y6]) S ∧ (y4 = .own ((outF es rest).2.map edO) ∨ y4 = .val (.lst ((outF es rest).2.map edO)))
  | [], acc, rest, x2, x4, x5, x6, _, _, h4 => ⟨x2, x4, x5, x6, by simp [outF], h4⟩
  | e :: es, acc, rest, x2, x4, x5, x6, hl, hr, h4 => by
    simp only [List.length_cons] at hl
    obtain ⟨z6, hin⟩ := li_loop x0 x1 (.own (acc.map Ed.d)) (.val (.lst (rest.map edO))) S rest [] (some e) x6 (by simp; omega)
    simp only [List.map_nil, List.nil_append] at hin
    have hed : edO (some e) = e.d := rfl
    rw [hed] at hin
    have hb : (acc.map Ed.d).length < 100000 := by rw [List.length_map]; omega
    have eb : bindD (.one 2) e.d [x0, x1, x2, .own (acc.map Ed.d), x4, x5, x6] = some [x0, x1, .val e.d, .own (acc.map Ed.d), x4, x5, x6] := rfl
    have hf4 : frzS [4] [x0, x1, .val e.d, .own (acc.map Ed.d), x4, .own [], x6] = [x0, x1, .val e.d, .own (acc.map Ed.d), .val (.lst (rest.map edO)), .own [], x6] := by
      rcases h4 with rfl | rfl <;> rfl
    obtain ⟨acc2, hacc⟩ : ∃ acc2, acc ++ ([(inF (some e) rest).2] : List (Option Ed)).filterMap id = acc2 := ⟨_, rfl⟩
    have hal : acc2.length ≤ acc.length + 1 := by
      rw [← hacc]
      have := List.length_filterMap_le id ([(inF (some e) rest).2] : List (Option Ed))
      simp only [List.length_append, List.length_cons, List.length_nil] at this ⊢
      omega
    have st : lp__law_row_over_1 [x0, x1, .val e.d, .own (acc.map Ed.d), x4, x5, x6] S = .ok (.nx [x0, x1, .val (edO (inF (some e) rest).2), .own (acc2.map Ed.d), .val (.lst ((inF (some e) rest).1.map edO)), .val (.lst ((inF (some e) rest).1.map edO)), z6]) S := by
      unfold lp__law_row_over_1
      rw [e_seqS]
      have s1 : setN 5 (fun ρ => (lstM (rt []))) [x0, x1, .val e.d, .own (acc.map Ed.d), x4, x5, x6] S = .ok (.nx [x0, x1, .val e.d, .own (acc.map Ed.d), x4, .own [], x6]) S := by simp
      rw [s1]
      dsimp only
      rw [e_seqS, hf4]
      clear h4 hf4 s1 eb hal
      generalize (inF (some e) rest).1.map edO = lt at *
      generalize hlast : (inF (some e) rest).2 = la at *
      have hn := isN_o la
      rw [← hacc]
      cases la with
      | none =>
        have e3 : (acc ++ ([none] : List (Option Ed)).filterMap id).map Ed.d = acc.map Ed.d := by simp
        rw [e3]
        generalize acc.map Ed.d = ac at *
        generalize rest.map edO = rs at *
        have hn' : ∀ S, isN true D.non S = some (.bl false) := fun _ => rfl
        simp [hin, frzS, frzE, edO]
      | some a =>
        have hn' := fun S => isN_ed a S true
        have e3 : (acc ++ [some a].filterMap id).map Ed.d = acc.map Ed.d ++ [a.d] := by simp
        rw [e3]
        generalize acc.map Ed.d = ac at *
        generalize rest.map edO = rs at *
        simp only [edO] at hin ⊢
        simp [hin, frzS, frzE, hn', hb]
    obtain ⟨y2, y4, y5, y6, ih, hy⟩ := lo_loop x0 x1 S es acc2 (inF (some e) rest).1 (.val (edO (inF (some e) rest).2)) _ _ z6 (by omega) (by rw [inF_len]; exact hr) (.inr rfl)
    refine ⟨y2, y4, y5, y6, ?_, hy⟩
    rw [List.map_cons, e_forC, eb]
    dsimp only
    rw [st]
    dsimp only
    rw [ih, ← hacc]
    have e5 : acc ++ ([(inF (some e) rest).2] : List (Option Ed)).filterMap id ++ (outF es (inF (some e) rest).1).1.filterMap id = acc ++ (outF (e :: es) rest).1.filterMap id := by
      rw [List.append_assoc, ← List.filterMap_append]
      rfl
    rw [e5]
theorem law_row_over (es os : List Ed) (h1 : es.length ≤ 100) (h2 : os.length ≤ 100) (S : Sto) : m__law_row_over [actsD es, actsD os] S = .ok (.tup [actsD (fnd es os), actsD (rst es os)]) S := by
  obtain ⟨y2, y4, y5, y6, hl, hy⟩ := lo_loop (.val (actsD es)) (.val (actsD os)) S es [] (os.map some) .no (.own (os.map Ed.d)) .no .no (by simp; omega) (by simp; omega) (.inl (by rw [map_some]))
  obtain ⟨G, hG⟩ : ∃ G, (outF es (os.map some)).2 = G := ⟨_, rfl⟩
  have hF : (outF es (os.map some)).1.filterMap id = fnd es os := rfl
  have hR : G.filterMap id = rst es os := by rw [← hG]; rfl
  rw [hF] at hl
  rw [hG] at hy
  have f2 := fun (x2 x5 x6 : Slot) => lc_mapF (S := S) (bnd := fun d => bindD (.one 6) d (wipeE [.val (actsD es), .val (actsD os), x2, .own ((fnd es os).map Ed.d), y4, x5, x6] [6])) (t := ct__law_row_over_0) (e := ce__law_row_over_0) (f := edO) (g := edO) (p := Option.isSome) G fun e _ =>
    ⟨[.val (actsD es), .val (actsD os), x2, .own ((fnd es os).map Ed.d), y4, x5, .val (edO e)], rfl, by unfold ct__law_row_over_0; simp [isN_o], fun _ => by unfold ce__law_row_over_0; simp⟩
  rw [some_map, hR] at f2
  have hs : ∀ S, seqM (actsD es) S = .ok (es.map Ed.d) S := fun _ => rfl
  have hst : ∀ S, listD [actsD os] S = some (os.map Ed.d) := fun _ => rfl
  simp only [List.map_nil, List.nil_append] at hl
  have hact : ∀ l : List Ed, actsD l = .tup (l.map Ed.d) := fun _ => rfl
  unfold m__law_row_over
  rw [n__law_row_over, hact (fnd es os), hact (rst es os)]
  generalize actsD es = ad at *
  generalize actsD os = ao at *
  generalize (fnd es os).map Ed.d = fd at *
  generalize (rst es os).map Ed.d = gd at *
  rcases hy with rfl | rfl <;> simp [hst, hs, hl, f2]
/-- what is due -/
def dueD (m : Nat) (es os : List Ed) : D := match wrongAt (endM m os) 0 (fnd es os) with
  | some j => .tup [.str "wrong", .int (j : Int)]
  | none => match wrongAt (endM m es) 0 (rst es os) with
    | some _ => .tup [.str "wrong", .int ((fnd es os).length : Int)]
    | none => .tup [.int (endM m os : Int), actsD (fnd es os)]
theorem isN_nat (o : Option Nat) (S : Sto) : isN true (natO o) S = some (.bl o.isSome) := by cases o <;> rfl
theorem len_acts (es : List Ed) (S : Sto) : lenD [actsD es] S = some (.int (es.length : Int)) := by
  unfold actsD
  simp
/-- rows that can be done -/
structure Row2 (m : Nat) (es os : List Ed) : Prop where
  m6 : m ≤ 6
  l1 : es.length ≤ 100
  l2 : os.length ≤ 100
  w1 : wrongAt m 0 es = none
  w2 : wrongAt m 0 os = none
theorem law_due {m : Nat} {es os : List Ed} (R : Row2 m es os) (S : Sto) : m__law_due [.int (m : Int), actsD es, actsD os] S = .ok (dueD m es os) S := by
  have h1 := law_row_over es os R.l1 R.l2
  have h2 := law_end_of m os R.w2
  have h3 := law_end_of m es R.w1
  have lf := fnd_len es os
  have lr := rst_len es os
  have a1 := R.l1
  have a2 := R.l2
  have h4 := law_first_wrong (endM m os) (end_le R.w2 R.m6) (fnd es os) (by omega)
  have h5 := law_first_wrong (endM m es) (end_le R.w1 R.m6) (rst es os) (by omega)
  have h6 := len_acts (fnd es os)
  have hn1 := isN_nat (wrongAt (endM m os) 0 (fnd es os))
  have hn2 := isN_nat (wrongAt (endM m es) 0 (rst es os))
  unfold m__law_due b__law_due dueD
  clear lf lr R
  generalize wrongAt (endM m os) 0 (fnd es os) = w1 at *
  generalize wrongAt (endM m es) 0 (rst es os) = w2 at *
  generalize (fnd es os).length = fl at *
  generalize actsD (fnd es os) = fd at *
  generalize actsD (rst es os) = rd at *
  generalize actsD es = ed at *
  generalize actsD os = od at *
  generalize endM m os = p at *
  generalize endM m es = q at *
  cases w1 with
  | some j =>
    simp only [natO] at h4 hn1
    simp [h1, h2, h4, hn1]
  | none =>
    cases w2 with
    | some j =>
      simp only [natO] at h4 h5 hn1 hn2
      simp [h1, h2, h3, h4, h5, h6, hn1, hn2]
    | none =>
      simp only [natO] at h4 h5 hn1 hn2
      simp [h1, h2, h3, h4, h5, h6, hn1, hn2]
end Pu

/-! text: Q10 -/
set_option Elab.async false
set_option linter.all false
set_option maxRecDepth 100000
set_option maxHeartbeats 1000000
namespace Sm
open PySem PySem.Spec L2
/-! ### plain data: == is equality -/
def clean : Nat → D → Bool
  | _, .non => true
  | _, .int _ => true
  | _, .str _ => true
  | n + 1, .tup ds => ds.all (clean n)
  | n + 1, .lst ds => ds.all (clean n)
  | _, _ => false
theorem cleans_py {n : Nat} (ih : ∀ d, clean n d = true → ∃ p, D.py d = some p ∧ p.depth ≤ n) : ∀ ds : List D, ds.all (clean n) = true → ∃ ps, D.pys ds = some ps ∧ PyData.depthAll ps ≤ n
  | [], _ => ⟨[], by simp [D.pys], by simp [PyData.depthAll]⟩
  | d :: ds, h => by
    rw [List.all_cons, Bool.and_eq_true] at h
    obtain ⟨p, h1, h2⟩ := ih d h.1
    obtain ⟨ps, h3, h4⟩ := cleans_py ih ds h.2
    refine ⟨p :: ps, by simp [D.pys, h1, h3], ?_⟩
    simp only [PyData.depthAll]
    omega
theorem clean_py : ∀ (n : Nat) (d : D), clean n d = true → ∃ p, D.py d = some p ∧ p.depth ≤ n
  | 0, d, h => by
    cases d <;> simp [clean] at h <;> exact ⟨_, rfl, by simp [PyData.depth]⟩
  | n + 1, d, h => by
    cases d with
    | tup ds =>
      obtain ⟨ps, h1, h2⟩ := cleans_py (clean_py n) ds (by simpa [clean] using h)
      exact ⟨.tuple ps, by simp [D.py, h1], by simp only [PyData.depth]; omega⟩
    | lst ds =>
      obtain ⟨ps, h1, h2⟩ := cleans_py (clean_py n) ds (by simpa [clean] using h)
      exact ⟨.list ps, by simp [D.py, h1], by simp only [PyData.depth]; omega⟩
    | _ => simp [clean] at h <;> exact ⟨_, rfl, by simp [PyData.depth]⟩
theorem cleans_eqv {n : Nat} (ih : ∀ d e p q, clean n d = true → clean n e = true → D.py d = some p → D.py e = some q → (PyData.eqv p q = true ↔ d = e)) : ∀ (ds es : List D) (ps qs : List PyData), ds.all (clean n) = true → es.all (clean n) = true → D.pys ds = some ps → D.pys es = some qs → (PyData.eqvAll ps qs = true ↔ ds = es)
  | [], [], ps, qs, _, _, h3, h4 => by
    simp [D.pys] at h3 h4
    subst h3 h4
    simp [PyData.eqvAll]
  | [], e :: es, ps, qs, _, h2, h3, h4 => by
    rw [List.all_cons, Bool.and_eq_true] at h2
    obtain ⟨q, e1, _⟩ := clean_py n e h2.1
    obtain ⟨qs', e2, _⟩ := cleans_py (clean_py n) es h2.2
    simp [D.pys, e1, e2] at h3 h4
    subst h3 h4
    simp [PyData.eqvAll]
  | d :: ds, [], ps, qs, h1, _, h3, h4 => by
    rw [List.all_cons, Bool.and_eq_true] at h1
    obtain ⟨q, e1, _⟩ := clean_py n d h1.1
    obtain ⟨qs', e2, _⟩ := cleans_py (clean_py n) ds h1.2
    simp [D.pys, e1, e2] at h3 h4
    subst h3 h4
    simp [PyData.eqvAll]
  | d :: ds, e :: es, ps, qs, h1, h2, h3, h4 => by
    rw [List.all_cons, Bool.and_eq_true] at h1 h2
    obtain ⟨p, e1, _⟩ := clean_py n d h1.1
    obtain ⟨ps', e2, _⟩ := cleans_py (clean_py n) ds h1.2
    obtain ⟨q, e3, _⟩ := clean_py n e h2.1
    obtain ⟨qs', e4, _⟩ := cleans_py (clean_py n) es h2.2
    simp [D.pys, e1, e2] at h3
    simp [D.pys, e3, e4] at h4
    subst h3 h4
    have a := ih d e p q h1.1 h2.1 e1 e3
    have b := cleans_eqv ih ds es ps' qs' h1.2 h2.2 e2 e4
    simp only [PyData.eqvAll, Bool.and_eq_true, a, b, List.cons.injEq]
theorem clean_eqv : ∀ (n : Nat) (d e : D) (p q : PyData), clean n d = true → clean n e = true → D.py d = some p → D.py e = some q → (PyData.eqv p q = true ↔ d = e)
  | 0, d, e, p, q, h1, h2, h3, h4 => by
    cases d <;> simp [clean] at h1 <;> cases e <;> simp [clean] at h2 <;> simp [D.py] at h3 h4 <;> subst h3 h4 <;> simp [PyData.eqv, beqS]
  | n + 1, d, e, p, q, h1, h2, h3, h4 => by
    have key : ∀ d : D, clean (n + 1) d = true → d = .non ∨ (∃ i, d = .int i) ∨ (∃ s, d = .str s) ∨ (∃ ds ps, d = .tup ds ∧ ds.all (clean n) = true ∧ D.pys ds = some ps ∧ D.py d = some (.tuple ps)) ∨ (∃ ds ps, d = .lst ds ∧ ds.all (clean n) = true ∧ D.pys ds = some ps ∧ D.py d = some (.list ps)) := fun d h => by
      cases d with
      | tup ds =>
        have h' : ds.all (clean n) = true := by simpa [clean] using h
        obtain ⟨ps, e1, _⟩ := cleans_py (clean_py n) ds h'
        exact .inr (.inr (.inr (.inl ⟨ds, ps, rfl, h', e1, by simp [D.py, e1]⟩)))
      | lst ds =>
        have h' : ds.all (clean n) = true := by simpa [clean] using h
        obtain ⟨ps, e1, _⟩ := cleans_py (clean_py n) ds h'
        exact .inr (.inr (.inr (.inr ⟨ds, ps, rfl, h', e1, by simp [D.py, e1]⟩)))
      | non => exact .inl rfl
      | int i => exact .inr (.inl ⟨i, rfl⟩)
      | str s => exact .inr (.inr (.inl ⟨s, rfl⟩))
      | _ => simp [clean] at h
    rcases key d h1 with rfl | ⟨i, rfl⟩ | ⟨s, rfl⟩ | ⟨ds, ps, rfl, a1, a2, a3⟩ | ⟨ds, ps, rfl, a1, a2, a3⟩ <;> rcases key e h2 with rfl | ⟨i', rfl⟩ | ⟨s', rfl⟩ | ⟨es, qs, rfl, b1, b2, b3⟩ | ⟨es, qs, rfl, b1, b2, b3⟩ <;> (try rw [a3] at h3) <;> (try rw [b3] at h4) <;> simp [D.py] at h3 h4 <;> subst h3 h4 <;> (try simp [PyData.eqv, beqS]) <;> exact cleans_eqv (clean_eqv n) _ _ _ _ a1 b1 a2 b2
theorem eq_clean {n : Nat} (hn : n ≤ 60) {d e : D} (hd : clean n d = true) (he : clean n e = true) : ∃ b : Bool, (∀ S, eqD d e S = some (.bl b)) ∧ (∀ S, neD d e S = some (.bl (!b))) ∧ (b = true ↔ d = e) := by
  obtain ⟨p, h1, h2⟩ := clean_py n d hd
  obtain ⟨q, h3, h4⟩ := clean_py n e he
  refine ⟨PyData.eqv p q, fun S => ?_, fun S => ?_, clean_eqv n d e p q hd he h1 h3⟩
  · unfold eqD
    simp only [h1, h3]
    exact if_pos (by omega)
  · unfold neD
    simp only [h1, h3]
    exact if_pos (by omega)
theorem eq_self {n : Nat} (hn : n ≤ 60) {d : D} (hd : clean n d = true) (S : Sto) : eqD d d S = some (.bl true) ∧ neD d d S = some (.bl false) := by
  obtain ⟨b, h1, h2, h3⟩ := eq_clean hn hd hd
  have : b = true := h3.mpr rfl
  subst this
  exact ⟨h1 S, h2 S⟩
theorem in_clean {n : Nat} (hn : n ≤ 60) {x : D} (hx : clean n x = true) {ds : List D} (hd : ds.all (clean n) = true) : ∃ b : Bool, (∀ S, inD false x (.lst ds) S = some (.bl b)) ∧ (∀ S, inD true x (.lst ds) S = some (.bl (!b))) ∧ (b = true ↔ x ∈ ds) := by
  obtain ⟨p, h1, h2⟩ := clean_py n x hx
  obtain ⟨ps, h3, h4⟩ := cleans_py (clean_py n) ds hd
  have key : ∀ (ds : List D) (ps : List PyData), ds.all (clean n) = true → D.pys ds = some ps → (anyE ps p = true ↔ x ∈ ds) := fun ds => by
    induction ds with
    | nil =>
      intro ps _ h
      simp [D.pys] at h
      subst h
      simp [anyE]
    | cons d ds ih =>
      intro ps hd h
      rw [List.all_cons, Bool.and_eq_true] at hd
      obtain ⟨q, e1, _⟩ := clean_py n d hd.1
      obtain ⟨qs, e2, _⟩ := cleans_py (clean_py n) ds hd.2
      simp [D.pys, e1, e2] at h
      subst h
      have a := clean_eqv n d x q p hd.1 hx e1 h1
      have b := ih qs hd.2 e2
      unfold anyE at b ⊢
      simp only [List.any_cons, Bool.or_eq_true, a, b, List.mem_cons]
      exact ⟨fun z => z.elim (fun z => .inl z.symm) .inr, fun z => z.elim (fun z => .inl z.symm) .inr⟩
  refine ⟨anyE ps p, fun S => ?_, fun S => ?_, key ds ps hd h3⟩
  · unfold inD
    simp only [h1, D.py, h3]
    exact if_pos (by omega)
  · unfold inD
    simp only [h1, D.py, h3]
    exact if_pos (by omega)
end Sm

/-! text: T6 -/
set_option Elab.async false
set_option linter.all false
set_option maxRecDepth 100000
set_option maxHeartbeats 4000000
namespace Pu
open PySem PySem.Spec L2 Sm Wk
theorem row_many (m : Nat) (es : List Ed) (S : Sto) : slotM 0 2 (rowI m es) S = .ok (.int (m : Int)) S := rfl
theorem row_acts (m : Nat) (es : List Ed) (S : Sto) : slotM 0 1 (rowI m es) S = .ok (actsD es) S := rfl
theorem row_cnts (m : Nat) (es : List Ed) (S : Sto) : slotM 0 0 (rowI m es) S = .ok (.lst ((cnts m es).map intN)) S := rfl
theorem row_ins (m : Nat) (es : List Ed) (S : Sto) : insM 0 (rowI m es) S = .ok (rowI m es) S := rfl
theorem row_any (m : Nat) (es : List Ed) (S : Sto) : anyM 1 (rowI m es) S = .ok (rowI m es) S := rfl
theorem row_iso (m : Nat) (es : List Ed) (S : Sto) : isoD 1 [rowI m es, .cls 0] S = some (.bl true) := rfl
theorem cnts_at (m : Nat) (es : List Ed) (S : Sto) : ixD (.lst ((cnts m es).map intN)) (.int (-1)) S = some (.int (endM m es : Int)) := by
  obtain ⟨l, h⟩ := cnts_last es m
  rw [h]
  exact last_at l _
theorem edits_many (m : Nat) (es : List Ed) (S : Sto) : m_Edits_many [rowI m es] S = .ok (.int (m : Int)) S := by
  have h := row_many m es
  unfold m_Edits_many b_Edits_many
  generalize rowI m es = r at *
  simp [h]
theorem edits_acts (m : Nat) (es : List Ed) (S : Sto) : m_Edits_acts [rowI m es] S = .ok (actsD es) S := by
  have h := row_acts m es
  unfold m_Edits_acts b_Edits_acts
  generalize rowI m es = r at *
  simp [h]
theorem edits_abs (m : Nat) (es : List Ed) (S : Sto) : m_Edits_abs [rowI m es] S = .ok (.int (endM m es : Int)) S := by
  have h := row_cnts m es
  have h2 := cnts_at m es
  unfold m_Edits_abs b_Edits_abs
  generalize (cnts m es).map intN = cs at *
  generalize rowI m es = r at *
  have h2' := h2 S
  simp only [e_ixL] at h2'
  simp [h, h2']
theorem edits_none (m : Nat) (hm : m ≤ 6) (S : Sto) : m_Edits_none [.int (m : Int)] S = .ok (rowI m []) S := by
  have h := edits_init m hm [] (by simp)
  have h' : ∀ S, m_Edits_init [.int (m : Int), .tup []] S = .ok (rowI m []) S := h
  unfold m_Edits_none b_Edits_none
  simp [h']
theorem edits_mod {m : Nat} {es os : List Ed} (R : Row2 m es os) (S : Sto) : m_Edits_mod [rowI m es, rowI m os] S = match wrongAt (endM m os) 0 (fnd es os) with
    | some j => .err 2 [.str "index", .int (j : Int)] S
    | none => match wrongAt (endM m es) 0 (rst es os) with
      | some _ => .err 2 [.str "index", .int ((fnd es os).length : Int)] S
      | none => .ok (rowI (endM m os) (fnd es os)) S := by
  have lf := fnd_len es os
  have lr := rst_len es os
  have a1 := R.l1
  have a2 := R.l2
  have h1 := carried_row es os R.l1 R.l2
  have h2 := edits_init (endM m os) (end_le R.w2 R.m6) (fnd es os) (by omega)
  have h3 := can_do (endM m es) (end_le R.w1 R.m6) (rst es os) (.lst ((rst es os).map Ed.d)) (fun _ => rfl)
  have c1 := row_many m es
  have c2 := row_acts m es
  have c3 := row_cnts m es
  have c4 := cnts_at m es S
  have c5 := edits_many m os
  have c6 := edits_acts m os
  have c7 := edits_abs m os
  have c8 := row_ins m os
  have tp : ∀ S, tupleD [.lst ((fnd es os).map Ed.d)] S = some (actsD (fnd es os)) := fun _ => rfl
  have ln : ∀ S, lenD [.lst ((fnd es os).map Ed.d)] S = some (.int ((fnd es os).length : Int)) := fun _ => by simp
  have ne : ∀ S, neD (.int (m : Int)) (.int (m : Int)) S = some (.bl false) := fun _ => by simp
  simp only [e_ixL] at c4
  unfold m_Edits_mod b_Edits_mod
  clear lf lr R
  generalize wrongAt (endM m os) 0 (fnd es os) = w1 at *
  generalize hw2 : wrongAt (endM m es) 0 (rst es os) = w2 at *
  generalize rowI (endM m os) (fnd es os) = rr at *
  generalize (fnd es os).length = fl at *
  generalize actsD (fnd es os) = fa at *
  generalize (fnd es os).map Ed.d = fd at *
  generalize (rst es os).map Ed.d = rd at *
  generalize actsD es = ed at *
  generalize actsD os = od at *
  generalize (cnts m es).map intN = cs at *
  generalize endM m os = p at *
  generalize endM m es = q at *
  generalize rowI m es = r1 at *
  generalize rowI m os = r2 at *
  cases w1 with
  | some j => simp [h1, h2, c1, c2, c5, c6, c7, c8, tp, ne]
  | none =>
    cases w2 with
    | some j => simp [h1, h2, h3, c1, c2, c3, c4, c5, c6, c7, c8, tp, ln, ne]
    | none => simp [h1, h2, h3, c1, c2, c3, c4, c5, c6, c7, c8, tp, ln, ne]
theorem edits_mod_ne {m n : Nat} (h : m ≠ n) (es os : List Ed) (S : Sto) : m_Edits_mod [rowI m es, rowI n os] S = .err 2 [.str "index", .non] S := by
  have c1 := row_many m es
  have c5 := edits_many n os
  have c8 := row_ins n os
  have ne : ∀ S, neD (.int (m : Int)) (.int (n : Int)) S = some (.bl true) := fun _ => by
    rw [e_neII]
    simp
    omega
  unfold m_Edits_mod b_Edits_mod
  generalize rowI m es = r1 at *
  generalize rowI n os = r2 at *
  simp [c1, c5, c8, ne]
theorem ed_clean (e : Ed) : clean 1 e.d = true := by cases e <;> rfl
theorem acts_clean (es : List Ed) : clean 2 (actsD es) = true := by
  have : ∀ d ∈ es.map Ed.d, clean 1 d = true := fun d hd => by
    obtain ⟨e, he, rfl⟩ := List.mem_map.mp hd
    exact ed_clean e
  exact List.all_eq_true.mpr this
theorem due_clean (m : Nat) (es os : List Ed) : clean 3 (dueD m es os) = true := by
  unfold dueD
  have h := acts_clean (fnd es os)
  split
  · rfl
  · split
    · rfl
    · simp [clean, h]
theorem edits_eq (m : Nat) (es : List Ed) (S : Sto) : m_Edits_eq [rowI m es, rowI m es] S = .ok (.bl true) S := by
  have c1 := row_many m es
  have c2 := row_acts m es
  have c5 := edits_many m es
  have c6 := edits_acts m es
  have c8 := row_ins m es
  have c9 := row_iso m es
  have e1 := fun S => (eq_self (n := 2) (by decide) (acts_clean es) S).1
  unfold m_Edits_eq b_Edits_eq
  generalize actsD es = ad at *
  generalize rowI m es = r at *
  simp [c1, c2, c5, c6, c8, c9, e1]
/-- the asker -/
def asked (m : M D) : M D := askT [((tstL [(2, true)]), .tup "wrong" "index")] (fun ρ => tupM (consM (bd (vl ρ 1) fun d => bd (insM 0 d) fun d => noX (callM 1 m_Edits_many [d])) (consM (bd (vl ρ 1) fun d => bd (insM 0 d) fun d => noX (callM 1 m_Edits_acts [d])) (rt [])))) m
theorem asked_ok {q : M D} {S S' : Sto} {m : Nat} {es : List Ed} (h : q S = .ok (rowI m es) S') : asked q S = .ok (.tup [.int (m : Int), actsD es]) S' := by
  have c5 := edits_many m es
  have c6 := edits_acts m es
  have c8 := row_ins m es
  unfold asked askT
  rw [h]
  generalize actsD es = ad at *
  generalize rowI m es = r at *
  simp [c5, c6, c8]
theorem asked_err {q : M D} {S S' : Sto} {v : D} (h : q S = .err 2 [.str "index", v] S') : asked q S = .ok (.tup [.str "wrong", v]) S' := by
  unfold asked askT
  rw [h]
  rfl
theorem asked_mod {m : Nat} {es os : List Ed} (R : Row2 m es os) {q : M D} {S : Sto} (hq : q S = m_Edits_mod [rowI m es, rowI m os] S) : asked q S = .ok (dueD m es os) S := by
  have h := edits_mod R S
  rw [← hq] at h
  unfold dueD
  cases w1 : wrongAt (endM m os) 0 (fnd es os) with
  | some j =>
    rw [w1] at h
    exact asked_err h
  | none =>
    rw [w1] at h
    cases w2 : wrongAt (endM m es) 0 (rst es os) with
    | some j =>
      rw [w2] at h
      exact asked_err h
    | none =>
      rw [w2] at h
      exact asked_ok h
end Pu

/-! text: T7 -/
set_option Elab.async false
set_option linter.all false
set_option maxRecDepth 100000
set_option maxHeartbeats 4000000
namespace Pu
open PySem PySem.Spec L2 Sm Wk
def everyE (m : Nat) : List Ed :=
  (List.range m).flatMap (fun i : Nat => (List.range (m + 1)).map fun j : Nat => Ed.copy i j) ++ (List.range m).flatMap (fun i : Nat => ((List.range m).filter fun j => j != i).map fun j : Nat => Ed.move i j) ++ (List.range m).map (fun i : Nat => Ed.out i) ++ (List.range (m + 1)).map fun i : Nat => Ed.put i
theorem law_edits (m : Nat) (h : m ≤ 6) (S : Sto) : m__law_edits [.int (m : Int)] S = .ok (.lst ((everyE m).map Ed.d)) S := by
  obtain rfl | rfl | rfl | rfl | rfl | rfl | rfl : m = 0 ∨ m = 1 ∨ m = 2 ∨ m = 3 ∨ m = 4 ∨ m = 5 ∨ m = 6 := by omega
  all_goals kernel_rfl
theorem some_can (m : Nat) (h : m ≤ 6) : (everyE m).filter (Ed.can m) ≠ [] := by
  obtain rfl | rfl | rfl | rfl | rfl | rfl | rfl : m = 0 ∨ m = 1 ∨ m = 2 ∨ m = 3 ∨ m = 4 ∨ m = 5 ∨ m = 6 := by omega
  all_goals (intro h; have h2 := congrArg List.isEmpty h; revert h2; decide +kernel)
theorem wrong_app : ∀ (es : List Ed) (m k : Nat) (e : Ed), wrongAt m k es = none → e.can (endM m es) = true → wrongAt m k (es ++ [e]) = none
  | [], m, k, e, _, hc => by
    have hc' : e.can m = true := hc
    rw [List.nil_append, wrong_t hc']
    rfl
  | f :: es, m, k, e, h, hc => by
    cases hf : f.can m with
    | true =>
      rw [wrong_t hf] at h
      rw [List.cons_append, wrong_t hf]
      exact wrong_app es _ _ e h hc
    | false => rw [wrong_f hf] at h; cases h
theorem end_app : ∀ (es : List Ed) (m : Nat) (e : Ed), endM m (es ++ [e]) = e.aft (endM m es)
  | [], m, e => rfl
  | f :: es, m, e => end_app es (f.aft m) e
theorem some_edits (n m : Nat) (hm : m ≤ 6) (S : Sto) (hd : Draw n S) : ∃ (es : List Ed) (S' : Sto), m__law_some_edits [.ref n, .int (m : Int), .int 3] S = .ok (actsD es) S' ∧ wrongAt m 0 es = none ∧ es.length ≤ 100 ∧ Draw n S' ∧ S'.length = S.length := by
  obtain ⟨r, S1, h1, r1, r2, d1, l1⟩ := next n 4 (by decide) S hd
  obtain ⟨q, hq⟩ : ∃ q : Nat, r = (q : Int) := ⟨r.toNat, by omega⟩
  subst hq
  have hr : ∀ ρ : Sm.Env, ρ[0]? = some (.val (.ref n)) → ρ[2]? = some (.val (.int 3)) → range1M (consM (bd (consM (vl ρ 0) (consM (o2 addA (vb ρ 2) (rt (.int 1))) (rt []))) fun ds => callM 2 m__law_next ds) (rt [])) S = .ok (rng 0 q) S1 := fun ρ a b => e_range1 (n := q) (by simp [a, b, h1]) (by omega)
  obtain ⟨ρ1, S2, h2, es, x4, x5, x6, e1, w1, l2, d2, l3⟩ := for_inv (t := .one 4) (b := lp__law_some_edits_0)
    (I := fun k ρ S' => ∃ (es : List Ed) (x4 x5 x6 : Slot), ρ = [.val (.ref n), .val (.int (endM m es : Int)), .val (.int 3), .own (es.map Ed.d), x4, x5, x6] ∧ wrongAt m 0 es = none ∧ es.length ≤ k ∧ Draw n S' ∧ S'.length = S1.length)
    (rng 0 q) 0 [.val (.ref n), .val (.int (m : Int)), .val (.int 3), .own [], .no, .no, .no] S1 ⟨[], .no, .no, .no, rfl, rfl, by simp, d1, rfl⟩ fun i dd ρ S3 hd3 ⟨es, x4, x5, x6, e, w, hl, d3, l3⟩ => by
      rw [e]
      have hi : i < q := by
        have := (List.getElem?_eq_some_iff.mp hd3).1
        rwa [rng_len] at this
      obtain ⟨m2, hm2⟩ : ∃ m2, endM m es = m2 := ⟨_, rfl⟩
      have h6 : m2 ≤ 6 := by rw [← hm2]; exact end_le w hm
      have he := law_edits m2 h6
      obtain ⟨y, S4, h4, hy, d4, l4⟩ := pick n (((everyE m2).filter (Ed.can m2)).map Ed.d) (by simpa using some_can m2 h6) S3 d3
      obtain ⟨ed, hed, rfl⟩ := List.mem_map.mp hy
      have hc : ed.can m2 = true := (List.mem_filter.mp hed).2
      have haf := law_many_after m2 ed hc
      have hmul := fun S => e_mulTn (.tup [.non, .tup []]) m2 (by omega) S
      have hlc := fun (x5 : Slot) => lc_mapF (S := S3) (bnd := fun d => bindD (.one 6) d (wipeE [.val (.ref n), .val (.int (m2 : Int)), .val (.int 3), .own (es.map Ed.d), .val dd, x5, x6] [6])) (t := ct__law_some_edits_0) (e := ce__law_some_edits_0) (f := Ed.d) (g := Ed.d) (p := Ed.can m2) (everyE m2) fun e _ =>
        ⟨[.val (.ref n), .val (.int (m2 : Int)), .val (.int 3), .own (es.map Ed.d), .val dd, x5, .val e.d], rfl, by
          have hcan := law_can (List.replicate m2 (.tup [.non, .tup []])) e
          rw [List.length_replicate] at hcan
          unfold ct__law_some_edits_0
          generalize List.replicate m2 (D.tup [.non, .tup []]) = rs at *
          simp [hmul, hcan], fun _ => by unfold ce__law_some_edits_0; simp⟩
      have hb : (es.map Ed.d).length < 100000 := by rw [List.length_map]; omega
      refine ⟨[.val (.ref n), .val (.int (m2 : Int)), .val (.int 3), .own (es.map Ed.d), .val dd, x5, x6], [.val (.ref n), .val (.int (ed.aft m2 : Int)), .val (.int 3), .own ((es ++ [ed]).map Ed.d), .val dd, .val (.lst (((everyE m2).filter (Ed.can m2)).map Ed.d)), .val ed.d], S4, by rw [hm2]; rfl, .inl ?_, es ++ [ed], _, _, _, by rw [end_app, hm2], wrong_app es m 0 ed w (by rw [hm2]; exact hc), by simp; omega, d4, by omega⟩
      unfold lp__law_some_edits_0
      rw [List.map_append]
      simp only [List.map_cons, List.map_nil]
      generalize ((everyE m2).filter (Ed.can m2)).map Ed.d = fs at *
      generalize (everyE m2).map Ed.d = ev at *
      generalize es.map Ed.d = eds at *
      simp [he, hlc, frzS, frzE, h4, hb, haf]
  rw [rng_len] at l2
  rw [e1] at h2
  refine ⟨es, S2, ?_, w1, by omega, d2, by omega⟩
  unfold m__law_some_edits actsD
  rw [n__law_some_edits]
  generalize es.map Ed.d = eds at *
  simp [hr, h2]
end Pu

/-! text: T8 -/
set_option Elab.async false
set_option linter.all false
set_option maxRecDepth 100000
set_option maxHeartbeats 4000000
namespace Pu
open PySem PySem.Spec L2 Sm Wk
theorem out_nil : ∀ es : List Ed, outF es [] = (es.map some, [])
  | [] => rfl
  | e :: es => by
    show ((inF (some e) []).2 :: (outF es (inF (some e) []).1).1, (outF es (inF (some e) []).1).2) = _
    have h : inF (some e) [] = ([], some e) := rfl
    rw [h]
    dsimp only
    rw [out_nil es]
    rfl
theorem fnd_nil (es : List Ed) : fnd es [] = es := by
  unfold fnd
  rw [List.map_nil, out_nil]
  simp
theorem rst_nil (es : List Ed) : rst es [] = [] := by
  unfold rst
  rw [List.map_nil, out_nil]
  rfl
theorem nil_fnd (os : List Ed) : fnd [] os = [] := rfl
theorem nil_rst (os : List Ed) : rst [] os = os := by
  unfold rst
  show (os.map some).filterMap id = os
  simp
theorem mod_none {m : Nat} {es : List Ed} (hm : m ≤ 6) (hl : es.length ≤ 100) (w : wrongAt m 0 es = none) (S : Sto) : m_Edits_mod [rowI m es, rowI m []] S = .ok (rowI m es) S := by
  have h := edits_mod (m := m) (es := es) (os := []) ⟨hm, hl, by simp, w, rfl⟩ S
  rw [fnd_nil, rst_nil] at h
  have e1 : endM m [] = m := rfl
  rw [e1, w] at h
  exact h
theorem none_mod {m : Nat} {es : List Ed} (hm : m ≤ 6) (hl : es.length ≤ 100) (w : wrongAt m 0 es = none) (S : Sto) : m_Edits_mod [rowI m [], rowI m es] S = .ok (rowI (endM m es) []) S := by
  have h := edits_mod (m := m) (es := []) (os := es) ⟨hm, by simp, hl, rfl, w⟩ S
  rw [nil_fnd, nil_rst] at h
  have e1 : endM m [] = m := rfl
  rw [e1, w] at h
  exact h
def lwE (x0 x1 : Slot) (n : Nat) (x3 x4 x5 x6 x7 x8 x9 x10 : Slot) : Sm.Env := [x0, x1, .val (.ref n), x3, x4, x5, x6, x7, x8, x9, x10]
theorem turn_ok (n : Nat) (x0 x1 x3 x4 x5 x6 x7 x8 x9 x10 : Slot) (S : Sto) (hd : Draw n S) :
    ∃ y4 y5 y6 y7 y8 y9 y10 S', lp_law_0 (lwE x0 x1 n x3 x4 x5 x6 x7 x8 x9 x10) S = .ok (.nx (lwE x0 x1 n x3 y4 y5 y6 y7 y8 y9 y10)) S' ∧ Draw n S' := by
  obtain ⟨r, S1, h1, r1, r2, d1, _⟩ := next n 5 (by decide) S hd
  obtain ⟨m, hm⟩ : ∃ m : Nat, r = (m : Int) := ⟨r.toNat, by omega⟩
  subst hm
  have m6 : m ≤ 6 := by omega
  obtain ⟨es, S2, h2, w1, l1, d2, _⟩ := some_edits n m m6 S1 d1
  obtain ⟨os, S3, h3, w2, l2, d3, _⟩ := some_edits n m m6 S2 d2
  have i1 := fun S => edits_init m m6 es (by omega) S
  have i2 := fun S => edits_init m m6 os (by omega) S
  rw [w1] at i1
  rw [w2] at i2
  dsimp only at i1 i2
  have R1 : Row2 m es os := ⟨m6, l1, l2, w1, w2⟩
  have R2 : Row2 m os es := ⟨m6, l2, l1, w2, w1⟩
  have u1 := law_due R1
  have u2 := law_due R2
  have ins1 := row_ins m es
  have ins2 := row_ins m os
  have ins3 := row_ins m []
  have ins4 := row_ins (m + 1) []
  have ins5 := row_ins (endM m es) []
  have a1 := fun S => asked_mod R1 (q := bd (vl [x0, x1, .val (.ref n), x3, .val (.int (m : Int)), x5, x6, .val (actsD es), .val (actsD os), .val (rowI m es), .val (rowI m os)] 9) fun x => bd (vl [x0, x1, .val (.ref n), x3, .val (.int (m : Int)), x5, x6, .val (actsD es), .val (actsD os), .val (rowI m es), .val (rowI m os)] 10) fun y => bd (insM 0 x) fun x => bd (insM 0 y) fun y => callM 2 m_Edits_mod [x, y]) (S := S) (by simp [ins1, ins2])
  have a2 := fun S => asked_mod R2 (q := bd (vl [x0, x1, .val (.ref n), x3, .val (.int (m : Int)), x5, x6, .val (actsD es), .val (actsD os), .val (rowI m es), .val (rowI m os)] 10) fun x => bd (vl [x0, x1, .val (.ref n), x3, .val (.int (m : Int)), x5, x6, .val (actsD es), .val (actsD os), .val (rowI m es), .val (rowI m os)] 9) fun y => bd (insM 0 x) fun x => bd (insM 0 y) fun y => callM 2 m_Edits_mod [x, y]) (S := S) (by simp [ins1, ins2])
  have n1 := fun S => (eq_self (n := 3) (by decide) (due_clean m es os) S).2
  have n2 := fun S => (eq_self (n := 3) (by decide) (due_clean m os es) S).2
  have k1 := edits_none m m6
  have k2 := mod_none m6 l1 w1
  have k3 := none_mod m6 l1 w1
  have k4 := edits_eq m es
  have k5 := row_any m es
  have k6 := edits_acts (endM m es) []
  have k7 := edits_many (endM m es) []
  have k8 := edits_abs m es
  have k9 : ∀ S, neD (actsD []) (.tup []) S = some (.bl false) := fun S => (eq_self (n := 2) (by decide) (d := .tup []) rfl S).2
  have k10 : ∀ S, neD (.int (endM m es : Int)) (.int (endM m es : Int)) S = some (.bl false) := fun S => by simp
  have i3 : ∀ S, m_Edits_init [.int ((m : Int) + 1), .tup []] S = .ok (rowI (m + 1) []) S := edits_init (m + 1) (by omega) [] (by simp)
  have a3 := fun S => asked_err (q := bd (vl [x0, x1, .val (.ref n), x3, .val (.int (m : Int)), .val (rowI m []), .val (rowI (m + 1) []), .val (actsD es), .val (actsD os), .val (rowI m es), .val (rowI m os)] 9) fun x => bd (vl [x0, x1, .val (.ref n), x3, .val (.int (m : Int)), .val (rowI m []), .val (rowI (m + 1) []), .val (actsD es), .val (actsD os), .val (rowI m es), .val (rowI m os)] 6) fun y => bd (insM 0 x) fun x => bd (insM 0 y) fun y => callM 2 m_Edits_mod [x, y]) (S := S) (S' := S) (v := .non) (by
    have h := edits_mod_ne (m := m) (n := m + 1) (by omega) es [] S
    simp [ins1, ins4, h])
  have n3 : ∀ S, neD (.tup [.str "wrong", .non]) (.tup [.str "wrong", .non]) S = some (.bl false) := fun S => (eq_self (n := 2) (by decide) (d := .tup [.str "wrong", .non]) rfl S).2
  refine ⟨.val (.int (m : Int)), .val (rowI m []), .val (rowI (m + 1) []), .val (actsD es), .val (actsD os), .val (rowI m es), .val (rowI m os), S3, ?_, d3⟩
  unfold lp_law_0 lwE
  unfold asked at a1 a2 a3
  clear R1 R2 w1 w2 d1 d2 d3 hd
  generalize rowI (m + 1) [] = rw1 at *
  generalize rowI (endM m es) [] = re at *
  generalize rowI m [] = rn at *
  generalize rowI m es = ro at *
  generalize rowI m os = rt' at *
  generalize dueD m es os = q1 at *
  generalize dueD m os es = q2 at *
  generalize actsD [] = a0 at *
  generalize actsD es = ae at *
  generalize actsD os = ao at *
  generalize endM m es = em at *
  simp [h1, h2, h3, i1, i2, a1, a2, u1, u2, n1, n2, k1, ins1, ins2, ins3, ins4, ins5, k2, k3, k4, k5, k6, k7, k8, k9, k10, i3, a3, n3]
end Pu

/-! text: T9 -/
set_option Elab.async false
set_option linter.all false
set_option maxRecDepth 100000
set_option maxHeartbeats 4000000
namespace Sm
open PySem PySem.Spec L2
theorem cut_scr2 (ds : List D) (k : Nat) (S : Sto) : sliceL (.scr ds) none (some (k : Int)) S = .ok (ds.take k) S := by
  have h := cut_to ds k S
  have : cutL ds none (some (k : Int)) = ds.take k := by
    have h' : Res.ok (cutL ds none (some (k : Int))) S = Res.ok (ds.take k) S := h
    injection h'
  show Res.ok (cutL ds none (some (k : Int))) S = _
  rw [this]
theorem rngC_get' {i k : Int} {n : Nat} {j : Nat} {d : D} (h : (rngC i k n)[j]? = some d) : d = .int (i + (j : Int) * k) := rngC_get h
end Sm
namespace Pu
open PySem PySem.Spec L2 Sm Wk
theorem by_ok (ns : List Int) (b : Int) (hb : 0 ≤ b) (x0 x2 x3 x4 x5 x6 x7 x8 x9 x10 : Slot) (h0 : x0 = .own (ns.map D.int) ∨ x0 = .val (.lst (ns.map D.int))) (S : Sto) :
    ∃ y2 y3 y4 y5 y6 y7 y8 y9 y10 S', lp_law_1 [x0, .val (.int b), x2, x3, x4, x5, x6, x7, x8, x9, x10] S = .ok (.nx [.val (.lst (ns.map D.int)), .val (.int b), y2, y3, y4, y5, y6, y7, y8, y9, y10]) S' := by
  have hf : frzS [0] [x0, .val (.int b), x2, x3, x4, x5, x6, x7, x8, x9, x10] = [.val (.lst (ns.map D.int)), .val (.int b), x2, x3, x4, x5, x6, x7, x8, x9, x10] := by
    rcases h0 with rfl | rfl <;> simp [frzS, frzE]
  have hd : Draw S.length (S ++ [.lst [.lst (ns.map D.int), .int b, .int 0]]) := ⟨ns, b, 0, by simp, hb, by omega⟩
  have hr : ∀ S : Sto, range1M (consM (rt (.int 6)) (rt [])) S = .ok (rng 0 6) S := fun S => e_range1 (n := 6) rfl (by omega)
  obtain ⟨ρ', S3, h1, y3, y4, y5, y6, y7, y8, y9, y10, e1, e2⟩ := for_inv (t := .one 3) (b := lp_law_0) (I := fun k ρ S' => ∃ y3 y4 y5 y6 y7 y8 y9 y10, ρ = lwE (.val (.lst (ns.map D.int))) (.val (.int b)) S.length y3 y4 y5 y6 y7 y8 y9 y10 ∧ Draw S.length S')
      (rng 0 6) 0 [.val (.lst (ns.map D.int)), .val (.int b), .val (.ref S.length), x3, x4, x5, x6, x7, x8, x9, x10] (S ++ [.lst [.lst (ns.map D.int), .int b, .int 0]]) ⟨_, _, _, _, _, _, _, _, rfl, hd⟩ fun i d ρ S4 _ ⟨y3, y4, y5, y6, y7, y8, y9, y10, e, hd4⟩ => by
        rw [e]
        obtain ⟨z4, z5, z6, z7, z8, z9, z10, S5, q1, q2⟩ := turn_ok S.length (.val (.lst (ns.map D.int))) (.val (.int b)) (.val d) y4 y5 y6 y7 y8 y9 y10 S4 hd4
        exact ⟨_, _, S5, rfl, .inl q1, _, _, _, _, _, _, _, _, rfl, q2⟩
  rw [e1] at h1
  refine ⟨.val (.ref S.length), y3, y4, y5, y6, y7, y8, y9, y10, S3, ?_⟩
  unfold lwE at h1
  unfold lp_law_1
  simp [hf, hr, h1, bd]
theorem law_ok (ns : List Int) (hn : ns.length ≤ 63) : ∃ S', m_law [.scr (ns.map D.int)] [] = .ok (.bl true) S' := by
  have hc : sliceL (.scr (ns.map D.int)) none (some 63) ([] : Sto) = .ok (ns.map D.int) [] := by
    have := cut_scr2 (ns.map D.int) 63 []
    rw [List.take_of_length_le (by simp; omega)] at this
    exact this
  obtain ⟨m, hm, hm1, hm2⟩ : ∃ m : Nat, (if (if (ns.length : Int) < 12 then (ns.length : Int) else 12) > 1 then (if (ns.length : Int) < 12 then (ns.length : Int) else 12) else 1) = (m : Int) ∧ 1 ≤ m ∧ m < 13 := by
    refine ⟨((if (if (ns.length : Int) < 12 then (ns.length : Int) else 12) > 1 then (if (ns.length : Int) < 12 then (ns.length : Int) else 12) else 1)).toNat, ?_, ?_, ?_⟩ <;> split <;> split <;> omega
  have hrg : ∀ m : Nat, m < 13 → 1 ≤ m → rgCB 0 (m : Int) 3 (Builtin.Range.rangeSize 0 (m : Int) 3).toNat = true := by decide +kernel
  have hr : ∀ ρ : Sm.Env, ρ[0]? = some (.own (ns.map D.int)) → range3M (consM (rt (.int 0)) (consM (c1 max2D (consM (rt (.int 1)) (consM (c1 min2D (consM (rt (.int 12)) (consM (c1 lenD (consM (vb ρ 0) (rt []))) (rt [])))) (rt [])))) (consM (rt (.int 3)) (rt [])))) ([] : Sto) = .ok (rngC 0 3 (Builtin.Range.rangeSize 0 (m : Int) 3).toNat) [] := fun ρ h => e_range3 (i := 0) (j := m) (k := 3) (by simp [h]; exact hm) (hrg m hm2 hm1)
  generalize (Builtin.Range.rangeSize 0 (m : Int) 3).toNat = q at hr
  obtain ⟨ρ', S3, h1, x0, x1, y2, y3, y4, y5, y6, y7, y8, y9, y10, e1, e2⟩ := for_inv (t := .one 1) (b := lp_law_1) (I := fun k ρ S' => ∃ x0 x1 y2 y3 y4 y5 y6 y7 y8 y9 y10, ρ = [x0, x1, y2, y3, y4, y5, y6, y7, y8, y9, y10] ∧ (x0 = .own (ns.map D.int) ∨ x0 = .val (.lst (ns.map D.int))))
      (rngC 0 3 q) 0 [.own (ns.map D.int), .no, .no, .no, .no, .no, .no, .no, .no, .no, .no] [] ⟨_, _, _, _, _, _, _, _, _, _, _, rfl, .inl rfl⟩ fun i d ρ S4 hd ⟨x0, x1, y2, y3, y4, y5, y6, y7, y8, y9, y10, e, h0⟩ => by
        rw [e]
        have hd' := rngC_get hd
        subst hd'
        obtain ⟨z2, z3, z4, z5, z6, z7, z8, z9, z10, S5, q1⟩ := by_ok ns (0 + (i : Nat) * 3) (by omega) x0 y2 y3 y4 y5 y6 y7 y8 y9 y10 h0 S4
        exact ⟨_, _, S5, rfl, .inl q1, _, _, _, _, _, _, _, _, _, _, _, rfl, .inr rfl⟩
  rw [e1] at h1
  refine ⟨S3, ?_⟩
  unfold m_law
  rw [n_law]
  simp [hc, hr, h1]
end Pu

/-! text: Hd -/
set_option Elab.async false
set_option linter.all false
set_option maxRecDepth 100000
set_option maxHeartbeats 0
namespace Hd
open PySem PySem.Spec PyProof.Rows L2 Sm Wk
def nm0 : List Str := ["_wall", "PointError", "BadSteps", "BadIndex", "BadSpot", "BadLabels", "BadWay", "BadEdit", "TooLarge", "BadEdits", "NoWayBack", "MOST_STEPS", "MOST_POINTERS", "MOST_NUMBER", "LETTERS", "is_number", "is_label", "is_pointer", "is_step", "are_rows", "first_with", "meaning", "all_spots", "meant_at", "relabelled", "Steps", "check_steps", "RANKS", "KINDS", "is_edit"]
def nm1 : List Str := ["sources", "standing", "pointing", "kept", "edited", "label_of", "is_word", "Way", "way_of", "check_way", "gap_over", "step_over", "move_over", "over", "PLAIN", "many_after", "counts_along", "can_do", "carried_row", "back_of", "Edits", "_law_gap_over", "_law_step_over", "_law_over", "_law_many_after", "_law_end_of", "_law_can", "_law_first_wrong", "_law_cell_at", "_law_draw"]
def nm2 : List Str := ["_law_number", "_law_next", "_law_edits", "_law_pick", "_law_some_edits", "_law_made_row", "_law_row_over", "_law_due"]
abbrev names : List Str := nm0 ++ nm1 ++ nm2
def fx0 : List Fx := [.strs "LETTERS" ["a", "b", "c", "d"], .int "MOST_NUMBER" 9, .int "MOST_POINTERS" 2, .int "MOST_STEPS" 6, .cst "PLAIN" (.tup [.non, .tup []]), .free "abs", .free "all", .free "bool", .free "enumerate", .exm "BadEdits" "BadEdits" true, .free "int", .free "isinstance", .free "len", .free "list", .free "max", .free "min", .ne "Edits", .free "range", .sf "Edits", .slot "Edits" "counts" 0, .slot "Edits" "own_acts" 1, .slot "Edits" "own_many" 2, .free "str", .free "tuple", .xf "BadEdits" "index", .xi "BadEdits" "index" "/claim/cut.py", .glo "_law_cell_at", .glo "_law_draw", .glo "_law_number", .glo "_law_next", .glo "_law_edits", .glo "_law_can", .glo "_law_pick", .glo "_law_many_after", .glo "_law_some_edits", .glo "is_number", .glo "is_label", .glo "is_pointer", .glo "is_step", .glo "are_rows", .glo "is_edit", .glo "many_after", .glo "counts_along", .mk "Edits", .glo "_law_made_row", .prop "Edits" "many", .glo "gap_over", .glo "step_over", .glo "move_over", .glo "over", .glo "carried_row", .prop "Edits" "acts", .meth "Edits" "__abs__", .glo "can_do", .meth "Edits" "__mod__", .glo "_law_gap_over", .glo "_law_step_over", .glo "_law_over", .glo "_law_row_over", .glo "_law_end_of", .glo "_law_first_wrong", .glo "_law_due", .sm "Edits" "none", .meth "Edits" "__eq__", .glo "law", .tu tq]
abbrev fxs : List Fx := fx0
abbrev css : List Str := ["Edits", "", "BadEdits"]
def ds0 : DS := ⟨.glo "_law_cell_at", "_law_cell_at", "_law_cell_at", top 65, [], []⟩
def ds1 : DS := ⟨.glo "_law_draw", "_law_draw", "_law_draw", top 66, [], []⟩
def ds2 : DS := ⟨.glo "_law_number", "_law_number", "_law_number", top 67, [], []⟩
def ds3 : DS := ⟨.glo "_law_next", "_law_next", "_law_next", top 68, [], []⟩
def ds4 : DS := ⟨.glo "_law_edits", "_law_edits", "_law_edits", top 69, [], []⟩
def ds5 : DS := ⟨.glo "_law_can", "_law_can", "_law_can", top 63, [], []⟩
def ds6 : DS := ⟨.glo "_law_pick", "_law_pick", "_law_pick", top 70, [], []⟩
def ds7 : DS := ⟨.glo "_law_many_after", "_law_many_after", "_law_many_after", top 61, [], []⟩
def ds8 : DS := ⟨.glo "_law_some_edits", "_law_some_edits", "_law_some_edits", top 71, [], []⟩
def ds9 : DS := ⟨.glo "is_number", "is_number", "is_number", top 17, [], []⟩
def ds10 : DS := ⟨.glo "is_label", "is_label", "is_label", top 18, [], []⟩
def ds11 : DS := ⟨.glo "is_pointer", "is_pointer", "is_pointer", top 19, [], []⟩
def ds12 : DS := ⟨.glo "is_step", "is_step", "is_step", top 20, [], []⟩
def ds13 : DS := ⟨.glo "are_rows", "are_rows", "are_rows", top 21, [], []⟩
def ds14 : DS := ⟨.glo "is_edit", "is_edit", "is_edit", top 32, [], []⟩
def ds15 : DS := ⟨.glo "many_after", "many_after", "many_after", top 51, [], []⟩
def ds16 : DS := ⟨.glo "counts_along", "counts_along", "counts_along", top 52, [], []⟩
def ds17 : DS := ⟨.meth "Edits" "__init__", "__init__", "Edits.__init__", inClass (top 56) 1, [], []⟩
def ds18 : DS := ⟨.glo "_law_made_row", "_law_made_row", "_law_made_row", top 72, [], []⟩
def ds19 : DS := ⟨.prop "Edits" "many", "many", "Edits.many", inClass (top 56) 3, [], []⟩
def ds20 : DS := ⟨.glo "gap_over", "gap_over", "gap_over", top 45, [], []⟩
def ds21 : DS := ⟨.glo "step_over", "step_over", "step_over", top 46, [], []⟩
def ds22 : DS := ⟨.glo "move_over", "move_over", "move_over", top 47, [], []⟩
def ds23 : DS := ⟨.glo "over", "over", "over", top 48, [], []⟩
def ds24 : DS := ⟨.glo "carried_row", "carried_row", "carried_row", top 54, [], []⟩
def ds25 : DS := ⟨.prop "Edits" "acts", "acts", "Edits.acts", inClass (top 56) 4, [], []⟩
def ds26 : DS := ⟨.meth "Edits" "__abs__", "__abs__", "Edits.__abs__", inClass (top 56) 6, [], []⟩
def ds27 : DS := ⟨.glo "can_do", "can_do", "can_do", top 53, [], []⟩
def ds28 : DS := ⟨.meth "Edits" "__mod__", "__mod__", "Edits.__mod__", inClass (top 56) 15, [], []⟩
def ds29 : DS := ⟨.glo "_law_gap_over", "_law_gap_over", "_law_gap_over", top 58, [], []⟩
def ds30 : DS := ⟨.glo "_law_step_over", "_law_step_over", "_law_step_over", top 59, [], []⟩
def ds31 : DS := ⟨.glo "_law_over", "_law_over", "_law_over", top 60, [], []⟩
def ds32 : DS := ⟨.glo "_law_row_over", "_law_row_over", "_law_row_over", top 73, [], []⟩
def ds33 : DS := ⟨.glo "_law_end_of", "_law_end_of", "_law_end_of", top 62, [], []⟩
def ds34 : DS := ⟨.glo "_law_first_wrong", "_law_first_wrong", "_law_first_wrong", top 64, [], []⟩
def ds35 : DS := ⟨.glo "_law_due", "_law_due", "_law_due", top 74, [], []⟩
def ds36 : DS := ⟨.stat "Edits" "none", "none", "Edits.none", inClass (top 56) 2, [], []⟩
def ds37 : DS := ⟨.meth "Edits" "__eq__", "__eq__", "Edits.__eq__", inClass (top 56) 18, [], []⟩
def ds38 : DS := ⟨.glo "law", "law", "law", top 75, [], []⟩
def ds39 : DS := ⟨.meth "BadEdits" "__init__", "__init__", "BadEdits.__init__", inClass (top 10) 0, [], ["__class__"]⟩
def fn0 : List DS := [ds0, ds1, ds2, ds3, ds4, ds5, ds6, ds7, ds8, ds9, ds10, ds11, ds12, ds13, ds14, ds15, ds16, ds17, ds18, ds19, ds20, ds21, ds22, ds23, ds24, ds25, ds26, ds27, ds28, ds29, ds30, ds31, ds32, ds33, ds34, ds35, ds36, ds37, ds38, ds39]
abbrev fns : List DS := fn0
abbrev tb0 : List Tb := []
abbrev tbs : List Tb := tb0
abbrev tfs : List At := tq.map (·.1)
abbrev R : PySem.W.OpenRow := PySem.W.OpenLaw.row PySem.Challenge.rw_seeabove_k35_whole_over
abbrev hk : PySem.W.Hook := hookL 6 fxs css fns tbs tfs
noncomputable def ob (s : PySem.W.SharedT) : AlL := obL 6 fxs css fns tbs tfs (HandSHeadRun.getT s)
theorem ob_eq (s : PySem.W.SharedT) : ob s = hk.obs s.abs := obL_eq (HandSHeadRun.getT_eq s)
theorem lf (w : World) : LookOk R (PySem.W.view R.prog [75]) 20000 names (w.withFollow "special-get-raises" false) := by
  intro os
  kernel_rfl
theorem p0f (w : World) : PartOk R 20000 fx0 css fn0 tb0 (w.withFollow "special-get-raises" false) := by
  intro os
  kernel_rfl
theorem lt (w : World) : LookOk R (PySem.W.view R.prog [75]) 20000 names (w.withFollow "special-get-raises" true) := by
  intro os
  kernel_rfl
theorem p0t (w : World) : PartOk R 20000 fx0 css fn0 tb0 (w.withFollow "special-get-raises" true) := by
  intro os
  kernel_rfl
theorem lw (w : World) : LookOk R (PySem.W.view R.prog [75]) 20000 names w :=
  PySem.W.byRow2 "special-get-raises" (P := fun w => LookOk R (PySem.W.view R.prog [75]) 20000 names w) lf lt w
theorem p0 (w : World) : PartOk R 20000 fx0 css fn0 tb0 w :=
  PySem.W.byRow2 "special-get-raises" (P := fun w => PartOk R 20000 fx0 css fn0 tb0 w) p0f p0t w
theorem tlf (w : World) : TabPart R 20000 tfs (w.withFollow "special-get-raises" false) := by
  intro os
  kernel_rfl
theorem tlt (w : World) : TabPart R 20000 tfs (w.withFollow "special-get-raises" true) := by
  intro os
  kernel_rfl
theorem tl (w : World) : TabPart R 20000 tfs w :=
  PySem.W.byRow2 "special-get-raises" (P := fun w => TabPart R 20000 tfs w) tlf tlt w
theorem run (w : World) : HandSHeadRun.RunEq R (PySem.W.view R.prog [75]) hk ob 20000 names w := run_partsL (lw w) (p0 w) (tl w)
theorem facts {w : World} {K : PySem.W.Frag} {h : Heap} {mg : Str → Option Value} (X : K.In h) (G : h.Ns mainGlobals mg) (e : obsS fxs css fns tbs K = valS fns tbs w) : Fc (PySem.Challenge.rw_seeabove_k35_whole_over).prog ⟨K, clsA K css, Sm.tbs K tq⟩ w mg := by
  exact {
    C := cf_of X G (says_b e).2.1,
    tb := rfl,
    tu := says_fx e 65 (f := .tu tq),
    g_Edits := cls_mg X G (says_b e).2.1 (k := 0) (by decide),
    g_LETTERS := fx_strs X G (says_fx e 0),
    g_MOST_NUMBER := fx_int X G (says_fx e 1),
    g_MOST_POINTERS := fx_int X G (says_fx e 2),
    g_MOST_STEPS := fx_int X G (says_fx e 3),
    g_PLAIN := let ⟨u, v, h1, h2, h3⟩ := fx_cst X G (says_fx e 4); ⟨u, v, h1, h2, fun Ψ => h3 _ Ψ rfl⟩,
    g_abs := fx_free X G (says_fx e 5),
    g_all := fx_free X G (says_fx e 6),
    g_bool := fx_free X G (says_fx e 7),
    g_enumerate := fx_free X G (says_fx e 8),
    xm_BadEdits_BadEdits := fx_exm (says_fx e 9),
    g_int := fx_free X G (says_fx e 10),
    g_isinstance := fx_free X G (says_fx e 11),
    g_len := fx_free X G (says_fx e 12),
    g_list := fx_free X G (says_fx e 13),
    g_max := fx_free X G (says_fx e 14),
    g_min := fx_free X G (says_fx e 15),
    ne_Edits := fx_ne (says_fx e 16),
    g_range := fx_free X G (says_fx e 17),
    sf_Edits := fx_sf (says_fx e 18),
    s_Edits_counts := fx_slot (says_fx e 19),
    s_Edits_own_acts := fx_slot (says_fx e 20),
    s_Edits_own_many := fx_slot (says_fx e 21),
    g_str := fx_free X G (says_fx e 22),
    g_tuple := fx_free X G (says_fx e 23),
    xf_BadEdits := fx_xf (says_fx e 24),
    xi_BadEdits := fx_xi X G (sn := "self") (xn := "index") (says_fx e 25 (f := .xi "BadEdits" "index" "/claim/cut.py")) (d := ds39) rfl (says_ds e 39).1 (says_ds e 39).2 rfl (by decide +kernel) (by decide +kernel) ⟨by decide +kernel, by decide +kernel, by decide +kernel⟩ (fun _ _ _ _ _ _ _ us hl => match us, hl with | [_, _], _ => rfl) (fun _ _ _ _ _ _ _ _ _ => ⟨_, _, _, _, _, _, _, _, _, _, _, _, rfl, fun _ => ⟨⟨rfl, rfl, rfl⟩, _, rfl⟩⟩) ⟨_, rfl, rfl⟩ rfl rfl rfl rfl rfl (by decide +kernel) rfl rfl,
    f__law_cell_at := let ⟨fd, F⟩ := says_fn e 0 (d := ds0); ⟨_, fd, fx_glo X G (says_fx e 26 (f := .glo "_law_cell_at")), F⟩,
    f__law_draw := let ⟨fd, F⟩ := says_fn e 1 (d := ds1); ⟨_, fd, fx_glo X G (says_fx e 27 (f := .glo "_law_draw")), F⟩,
    f__law_number := let ⟨fd, F⟩ := says_fn e 2 (d := ds2); ⟨_, fd, fx_glo X G (says_fx e 28 (f := .glo "_law_number")), F⟩,
    f__law_next := let ⟨fd, F⟩ := says_fn e 3 (d := ds3); ⟨_, fd, fx_glo X G (says_fx e 29 (f := .glo "_law_next")), F⟩,
    f__law_edits := let ⟨fd, F⟩ := says_fn e 4 (d := ds4); ⟨_, fd, fx_glo X G (says_fx e 30 (f := .glo "_law_edits")), F⟩,
    f__law_can := let ⟨fd, F⟩ := says_fn e 5 (d := ds5); ⟨_, fd, fx_glo X G (says_fx e 31 (f := .glo "_law_can")), F⟩,
    f__law_pick := let ⟨fd, F⟩ := says_fn e 6 (d := ds6); ⟨_, fd, fx_glo X G (says_fx e 32 (f := .glo "_law_pick")), F⟩,
    f__law_many_after := let ⟨fd, F⟩ := says_fn e 7 (d := ds7); ⟨_, fd, fx_glo X G (says_fx e 33 (f := .glo "_law_many_after")), F⟩,
    f__law_some_edits := let ⟨fd, F⟩ := says_fn e 8 (d := ds8); ⟨_, fd, fx_glo X G (says_fx e 34 (f := .glo "_law_some_edits")), F⟩,
    f_is_number := let ⟨fd, F⟩ := says_fn e 9 (d := ds9); ⟨_, fd, fx_glo X G (says_fx e 35 (f := .glo "is_number")), F⟩,
    f_is_label := let ⟨fd, F⟩ := says_fn e 10 (d := ds10); ⟨_, fd, fx_glo X G (says_fx e 36 (f := .glo "is_label")), F⟩,
    f_is_pointer := let ⟨fd, F⟩ := says_fn e 11 (d := ds11); ⟨_, fd, fx_glo X G (says_fx e 37 (f := .glo "is_pointer")), F⟩,
    f_is_step := let ⟨fd, F⟩ := says_fn e 12 (d := ds12); ⟨_, fd, fx_glo X G (says_fx e 38 (f := .glo "is_step")), F⟩,
    f_are_rows := let ⟨fd, F⟩ := says_fn e 13 (d := ds13); ⟨_, fd, fx_glo X G (says_fx e 39 (f := .glo "are_rows")), F⟩,
    f_is_edit := let ⟨fd, F⟩ := says_fn e 14 (d := ds14); ⟨_, fd, fx_glo X G (says_fx e 40 (f := .glo "is_edit")), F⟩,
    f_many_after := let ⟨fd, F⟩ := says_fn e 15 (d := ds15); ⟨_, fd, fx_glo X G (says_fx e 41 (f := .glo "many_after")), F⟩,
    f_counts_along := let ⟨fd, F⟩ := says_fn e 16 (d := ds16); ⟨_, fd, fx_glo X G (says_fx e 42 (f := .glo "counts_along")), F⟩,
    f_Edits_init := let ⟨fd, F⟩ := says_fn e 17 (d := ds17); ⟨_, fd, fx_mk (says_fx e 43 (f := .mk "Edits")), F⟩,
    f__law_made_row := let ⟨fd, F⟩ := says_fn e 18 (d := ds18); ⟨_, fd, fx_glo X G (says_fx e 44 (f := .glo "_law_made_row")), F⟩,
    f_Edits_many := let ⟨fd, F⟩ := says_fn e 19 (d := ds19); ⟨_, _, fd, fx_prop (says_fx e 45 (f := .prop "Edits" "many")), F⟩,
    f_gap_over := let ⟨fd, F⟩ := says_fn e 20 (d := ds20); ⟨_, fd, fx_glo X G (says_fx e 46 (f := .glo "gap_over")), F⟩,
    f_step_over := let ⟨fd, F⟩ := says_fn e 21 (d := ds21); ⟨_, fd, fx_glo X G (says_fx e 47 (f := .glo "step_over")), F⟩,
    f_move_over := let ⟨fd, F⟩ := says_fn e 22 (d := ds22); ⟨_, fd, fx_glo X G (says_fx e 48 (f := .glo "move_over")), F⟩,
    f_over := let ⟨fd, F⟩ := says_fn e 23 (d := ds23); ⟨_, fd, fx_glo X G (says_fx e 49 (f := .glo "over")), F⟩,
    f_carried_row := let ⟨fd, F⟩ := says_fn e 24 (d := ds24); ⟨_, fd, fx_glo X G (says_fx e 50 (f := .glo "carried_row")), F⟩,
    f_Edits_acts := let ⟨fd, F⟩ := says_fn e 25 (d := ds25); ⟨_, _, fd, fx_prop (says_fx e 51 (f := .prop "Edits" "acts")), F⟩,
    f_Edits_abs := let ⟨fd, F⟩ := says_fn e 26 (d := ds26); ⟨_, fd, fx_meth (says_fx e 52 (f := .meth "Edits" "__abs__")), F⟩,
    f_can_do := let ⟨fd, F⟩ := says_fn e 27 (d := ds27); ⟨_, fd, fx_glo X G (says_fx e 53 (f := .glo "can_do")), F⟩,
    f_Edits_mod := let ⟨fd, F⟩ := says_fn e 28 (d := ds28); ⟨_, fd, fx_meth (says_fx e 54 (f := .meth "Edits" "__mod__")), F⟩,
    f__law_gap_over := let ⟨fd, F⟩ := says_fn e 29 (d := ds29); ⟨_, fd, fx_glo X G (says_fx e 55 (f := .glo "_law_gap_over")), F⟩,
    f__law_step_over := let ⟨fd, F⟩ := says_fn e 30 (d := ds30); ⟨_, fd, fx_glo X G (says_fx e 56 (f := .glo "_law_step_over")), F⟩,
    f__law_over := let ⟨fd, F⟩ := says_fn e 31 (d := ds31); ⟨_, fd, fx_glo X G (says_fx e 57 (f := .glo "_law_over")), F⟩,
    f__law_row_over := let ⟨fd, F⟩ := says_fn e 32 (d := ds32); ⟨_, fd, fx_glo X G (says_fx e 58 (f := .glo "_law_row_over")), F⟩,
    f__law_end_of := let ⟨fd, F⟩ := says_fn e 33 (d := ds33); ⟨_, fd, fx_glo X G (says_fx e 59 (f := .glo "_law_end_of")), F⟩,
    f__law_first_wrong := let ⟨fd, F⟩ := says_fn e 34 (d := ds34); ⟨_, fd, fx_glo X G (says_fx e 60 (f := .glo "_law_first_wrong")), F⟩,
    f__law_due := let ⟨fd, F⟩ := says_fn e 35 (d := ds35); ⟨_, fd, fx_glo X G (says_fx e 61 (f := .glo "_law_due")), F⟩,
    f_Edits_none := let ⟨fd, F⟩ := says_fn e 36 (d := ds36); let ⟨p, hp⟩ := fx_sm (says_fx e 62 (f := .sm "Edits" "none")); ⟨p, _, fd, hp, F⟩,
    f_Edits_eq := let ⟨fd, F⟩ := says_fn e 37 (d := ds37); ⟨_, fd, fx_meth (says_fx e 63 (f := .meth "Edits" "__eq__")), F⟩,
    f_law := let ⟨fd, F⟩ := says_fn e 38 (d := ds38); ⟨fd, fx_glo X G (says_fx e 64 (f := .glo "law")), F⟩ }
end Hd
open PySem PySem.W PySem.Calls PyProof.Rows
theorem Hd.holds (hp : ∀ ns : List Int, ns.length ≤ 63 → ∃ S', Wk.m_law [.scr (ns.map Sm.D.int)] [] = .ok (.bl true) S') : PySem.Challenge.rw_seeabove_k35_whole_over.Holds := by
  w_on; o_law
  refine HandSHeadRun.head_any (r := OpenLaw.row PySem.Challenge.rw_seeabove_k35_whole_over) (q := view (OpenLaw.row PySem.Challenge.rw_seeabove_k35_whole_over).prog [75]) (H := Hd.hk) (ob := Hd.ob) (M := 20000) (loose := Hd.names) (d := HandSHeadRun.topDef (OpenLaw.row PySem.Challenge.rw_seeabove_k35_whole_over).prog 75) (kwd := []) Hd.ob_eq
    (by kernel_rfl) (fun s => by kernel_rfl) Hd.run (by kernel_rfl) (by kernel_rfl) (by kernel_rfl) (by rfl) (by first | assumption | decide +kernel) (by decide +kernel) ⟨rfl, rfl, rfl, rfl, rfl, by decide +kernel⟩ ?hw ?hc
  case hw => w_witness2
  case hc =>
    refine LamX.walk_ofTsE (l := PySem.Challenge.rw_seeabove_k35_whole_over) (n := 63) (k := 13) (x := "_law_script") (CX := fun w => L2.CX (PySem.Challenge.rw_seeabove_k35_whole_over).prog w) rfl (by decide) (by kernel_rfl) ⟨rfl, by decide, by decide⟩ ?F (fun w H s e s' z => Sm.cx_none H s e s' z)
    intro w mg fa h Y G hmg0
    obtain ⟨K, KX, Y⟩ := Y
    have hmg : mg ("law" : PySem.Str) = some (.ref fa) := by
      have e : (HandSHeadRun.topDef (OpenLaw.row PySem.Challenge.rw_seeabove_k35_whole_over).prog 75).name = ("law" : PySem.Str) := by kernel_rfl
      rw [← e]
      exact hmg0
    obtain ⟨ad, fd, h1, hb, hF⟩ := Wk.F_law (P := (PySem.Challenge.rw_seeabove_k35_whole_over).prog) (Hd.facts KX G Y.t)
    have e2 := hmg.symm.trans h1
    cases e2
    obtain ⟨y1, y2, y3⟩ := Sm.lawL_of Y KX
    exact ⟨K, KX, fd, Sm.cds K Wk.tq, _, y1, y2, y3, hb, fun H a ns hl _ hT hS => Sm.prom_lawL (c := ⟨K, Sm.clsA K Hd.css, Sm.tbs K Wk.tq⟩) hl (Sm.tb_of hT) hS (hp ns hl), fun base _ _ TB => hF base TB⟩


set_option Elab.async false
theorem PySem.Challenge.cw_seeabove_k35_whole_over_holds : PySem.Challenge.rw_seeabove_k35_whole_over.Holds := by
  exact Hd.holds Pu.law_ok
