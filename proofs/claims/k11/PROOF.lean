import PyProof.Rows.All
import Wide.All
import OpenK.AllK
import Wide.FinOn
import HandS.ForMost
import HandS.ForExc
import HandS.More
import HandS.Deep
import HandS.TupAny
import HandS.TupMul
import HandS.TupLe
import HandS.IsInst
import HandS.Slots
import HandS.SlotsOwn
import HandS.Lambda
import KE.KDictDisplayH
import KE.DataEq
import HandS.Wide
import HandS.Conv
import HandS.Walk
import HandS.Zip
import KE.GoesEnum
import HandS.Defaults
import HandS.MakeKwOnly
import HandS.Style
import KE.GoesMore
import PyProof.Draws
import PyProof.EnumMake
import HandS.Sort
import HandS.Strs
import HandS.MapSum
import HandS.Star
import HandS.Comp
import KE.KRevSl
import HandS.OwnEq
import PyProof.NeKinds
import PyProof.InstEq
import HandS.ExcOwn
import HandS.TryOnly
import HandS.TryMany
import HandS.HeadNt
import PyProof.ExcBaseAll.ValueError
import HandS.HeadHook4
import KE.KExcSuper
import HandS.ExcInit
import HandS.ExcField
import PyProof.Rows.RuleN_abs
import KE.KOpsOwn
import HandS.ClsMeth
import HandS.DictComp
import KE.KDictPairs
import PyProof.DictValues
import KE.KDictWalk
import HandS.NoneIn
import HandS.DictEq
import KE.KStateDown
import HandS.Head0
import HandS.Head1
import HandS.Head2
import HandS.HeadEnd
import HandS.HeadHook1
import HandS.HeadHook2
import HandS.HeadHook3
import HandS.HeadWalk
import HandS.EndTab
import PySem.Challenge.RW_seeabove_k11_known
/-! text: Sim1 -/
set_option Elab.async false
set_option linter.all false
set_option maxRecDepth 100000
set_option maxHeartbeats 1000000
namespace Sm
open PySem PySem.Spec PyProof.Rows L2

abbrev LIM : Nat := 100000
theorem lim_le : LIM ≤ sizeLine := by rw [sizeLine_eq]; decide
theorem lim_of {n : Nat} (h : n ≤ LIM) : n ≤ sizeLine := Nat.le_trans h lim_le
theorem lim_lt {n : Nat} (h : n < LIM) : n < sizeLine := Nat.lt_of_lt_of_le h lim_le

/-- plain data of the program, without a heap -/
inductive D where
  | non | bl (b : Bool) | int (i : Int) | str (x : Str)
  | tup (ds : List D) | lst (ds : List D)
  | scr (ds : List D)
  | ins (k : Nat) (fs : List D)
  | dct (ks : List (Key × D))
  | dctL (ks : List (Key × D))
  | ref (n : Nat)
  | cls (k : Nat)
  | ty (n : String)
  | pt (ds : List D)
/-- what is shared and may change -/
inductive Ob where
  | lst (ds : List D)
  | ins (k : Nat) (fs : List D)
  | dct (ks : List (D × D))
  | dctF (ks : List (D × D))
/-- it may still be changed -/
def Ob.opn : Ob → Bool
  | .dctF _ => false
  | _ => true
abbrev Sto := List Ob
inductive Res (α : Type) where
  | ok (a : α) (S : Sto)
  | err (k : Nat) (fs : List D) (S : Sto)
  | stuck
def M (α : Type) : Type := Sto → Res α
def rt {α : Type} (a : α) : M α := fun S => .ok a S
def bd {α β : Type} (m : M α) (f : α → M β) : M β := fun S => match m S with
  | .ok a S' => f a S'
  | .err k fs S' => .err k fs S'
  | .stuck => .stuck
def stk {α : Type} : M α := fun _ => .stuck
def thr {α : Type} (k : Nat) (fs : List D) : M α := fun S => .err k fs S
def opt {α : Type} (o : Option α) : M α := fun S => match o with
  | some a => .ok a S
  | none => .stuck
/-- an error inside is no way of ours -/
def noX {α : Type} (m : M α) : M α := fun S => match m S with
  | .ok a S' => .ok a S'
  | _ => .stuck

/-- what the text gives: the fragment, the classes by number -/
structure Cf where
  K : PySem.W.Frag
  cls : Nat → Addr
  tb : List (Addr × Str)
  w : World
/-- what is known to stand: the frozen objects, the shared ones (each with its own dict's address) -/
structure Wd where
  fz : Hp
  sh : List (Addr × Addr)
  tb : List (Addr × Str)

mutual
inductive Rep (c : Cf) (Ψ : Wd) : V → D → Prop
  | non : Rep c Ψ .non .non
  | bl (b : Bool) : Rep c Ψ (.bl b) (.bl b)
  | int (i : Int) : Rep c Ψ (.int i) (.int i)
  | str (x : Str) : Rep c Ψ (.str x) (.str x)
  | tup {a : Addr} {vs : List V} {ds : List D} (h : SqT c.K Ψ.fz a vs) (l : vs.length ≤ LIM) (r : Reps c Ψ vs ds) : Rep c Ψ (.ref a) (.tup ds)
  | lst {a : Addr} {vs : List V} {ds : List D} (h : Ψ.fz a = some (.lst vs)) (l : vs.length ≤ LIM) (r : Reps c Ψ vs ds) : Rep c Ψ (.ref a) (.lst ds)
  | scr {a : Addr} {vs : List V} {ds : List D} (h : SqL c.K Ψ.fz a vs) (l : vs.length ≤ LIM) (r : Reps c Ψ vs ds) : Rep c Ψ (.ref a) (.scr ds)
  | ins {a dx : Addr} {k : Nat} {vs : List V} {fs : List D} (h : SlX.Slt Ψ.fz a (c.cls k) dx (vs.map some)) (r : Reps c Ψ vs fs) : Rep c Ψ (.ref a) (.ins k fs)
  | dct {a : Addr} {kvs : List (Key × V)} {ks : List (Key × D)} (h : Ψ.fz a = some (.dK kvs)) (e : kvs.map (·.1) = ks.map (·.1)) (r : Reps c Ψ (kvs.map (·.2)) (ks.map (·.2))) : Rep c Ψ (.ref a) (.dct ks)
  | dctL {a : Addr} {od : Obj} {kvs : List (Key × V)} {ks : List (Key × D)} (h : Ψ.fz a = some (.frz od (.dK kvs))) (e : kvs.map (·.1) = ks.map (·.1)) (r : Reps c Ψ (kvs.map (·.2)) (ks.map (·.2))) : Rep c Ψ (.ref a) (.dctL ks)
  | obj {n : Nat} {p : Addr × Addr} (h : Ψ.sh[n]? = some p) : Rep c Ψ (.ref p.1) (.ref n)
  | cls (k : Nat) : Rep c Ψ (.ref (c.cls k)) (.cls k)
  | ty (n : String) : Rep c Ψ (.ty n) (.ty n)
  | pt {a : Addr} {o : Obj} {vs : List V} {ds : List D} (h : Ψ.fz a = some (.frz o (.tup vs))) (hd : o.dict = none) (l : vs.length ≤ LIM) (r : Reps c Ψ vs ds) : Rep c Ψ (.ref a) (.pt ds)
inductive Reps (c : Cf) (Ψ : Wd) : List V → List D → Prop
  | nil : Reps c Ψ [] []
  | cons {v : V} {vs : List V} {d : D} {ds : List D} (h : Rep c Ψ v d) (t : Reps c Ψ vs ds) : Reps c Ψ (v :: vs) (d :: ds)
end

/-- Ψ' knows all that Ψ knows -/
structure Le (Ψ Ψ' : Wd) : Prop where
  phi : ∀ a o, Ψ.fz a = some o → Ψ'.fz a = some o
  mu : ∀ (n : Nat) (p : Addr × Addr), Ψ.sh[n]? = some p → Ψ'.sh[n]? = some p
  tb : Ψ'.tb = Ψ.tb
theorem Le.refl (Ψ : Wd) : Le Ψ Ψ := ⟨fun _ _ h => h, fun _ _ h => h, rfl⟩
theorem Le.trans {A B C : Wd} (x : Le A B) (y : Le B C) : Le A C := ⟨fun a o h => y.phi a o (x.phi a o h), fun n p h => y.mu n p (x.mu n p h), y.tb.trans x.tb⟩
theorem Le.rd {Ψ Ψ' : Wd} (x : Le Ψ Ψ') {a : Addr} {u : HO} (h : Rd Ψ.fz a u) : Rd Ψ'.fz a u := h.elim (fun h => .inl (x.phi _ _ h)) fun ⟨o, h⟩ => .inr ⟨o, x.phi _ _ h⟩
theorem Le.sqT {K : PySem.W.Frag} {Ψ Ψ' : Wd} (x : Le Ψ Ψ') {a : Addr} {vs : List V} (h : SqT K Ψ.fz a vs) : SqT K Ψ'.fz a vs := h.elim (fun h => .inl (x.rd h)) .inr
theorem Le.sqL {K : PySem.W.Frag} {Ψ Ψ' : Wd} (x : Le Ψ Ψ') {a : Addr} {vs : List V} (h : SqL K Ψ.fz a vs) : SqL K Ψ'.fz a vs := h.elim (fun h => .inl (x.rd h)) .inr
theorem Le.slt {Ψ Ψ' : Wd} (x : Le Ψ Ψ') {a C dx : Addr} {vs : List (Option V)} (h : SlX.Slt Ψ.fz a C dx vs) : SlX.Slt Ψ'.fz a C dx vs :=
  h.elim (fun h => .inl ⟨x.phi _ _ h.1, h.2⟩) fun h => .inr ⟨x.phi _ _ h.1, x.phi _ _ h.2⟩
theorem Rep.mono {c : Cf} {Ψ Ψ' : Wd} (x : Le Ψ Ψ') {v : V} {d : D} (h : Rep c Ψ v d) : Rep c Ψ' v d := by
  refine Rep.rec (motive_1 := fun v d _ => Rep c Ψ' v d) (motive_2 := fun vs ds _ => Reps c Ψ' vs ds) ?_ ?_ ?_ ?_ ?_ ?_ ?_ ?_ ?_ ?_ ?_ ?_ ?_ ?_ ?_ ?_ h
  · exact .non
  · exact fun b => .bl b
  · exact fun b => .int b
  · exact fun b => .str b
  · exact fun h l _ r => .tup (x.sqT h) l r
  · exact fun h l _ r => .lst (x.phi _ _ h) l r
  · exact fun h l _ r => .scr (x.sqL h) l r
  · exact fun h _ r => .ins (x.slt h) r
  · exact fun h e _ r => .dct (x.phi _ _ h) e r
  · exact fun h e _ r => .dctL (x.phi _ _ h) e r
  · exact fun h => .obj (x.mu _ _ h)
  · exact fun k => .cls k
  · exact fun k => .ty k
  · exact fun h hd l _ r => .pt (x.phi _ _ h) hd l r
  · exact .nil
  · exact fun _ _ a b => .cons a b
theorem Reps.mono {c : Cf} {Ψ Ψ' : Wd} (x : Le Ψ Ψ') : ∀ {vs : List V} {ds : List D}, Reps c Ψ vs ds → Reps c Ψ' vs ds
  | _, _, .nil => .nil
  | _, _, .cons h t => .cons (h.mono x) (Reps.mono x t)
theorem Reps.length {c : Cf} {Ψ : Wd} : ∀ {vs : List V} {ds : List D}, Reps c Ψ vs ds → vs.length = ds.length
  | _, _, .nil => rfl
  | _, _, .cons _ t => by rw [List.length_cons, List.length_cons, Reps.length t]
theorem Reps.get {c : Cf} {Ψ : Wd} : ∀ {vs : List V} {ds : List D} {i : Nat} {d : D}, Reps c Ψ vs ds → ds[i]? = some d → ∃ v, vs[i]? = some v ∧ Rep c Ψ v d
  | _, _, _, _, .nil, e => by simp at e
  | _, _, 0, _, .cons h _, e => by simp at e; subst e; exact ⟨_, rfl, h⟩
  | _, _, i + 1, _, .cons _ t, e => by
    obtain ⟨v, h1, h2⟩ := Reps.get (i := i) t (by simpa using e)
    exact ⟨v, by simpa using h1, h2⟩
theorem Reps.app {c : Cf} {Ψ : Wd} : ∀ {vs ws : List V} {ds es : List D}, Reps c Ψ vs ds → Reps c Ψ ws es → Reps c Ψ (vs ++ ws) (ds ++ es)
  | _, _, _, _, .nil, s => s
  | _, _, _, _, .cons h t, s => .cons h (Reps.app t s)
theorem Reps.take {c : Cf} {Ψ : Wd} : ∀ {vs : List V} {ds : List D} (n : Nat), Reps c Ψ vs ds → Reps c Ψ (vs.take n) (ds.take n)
  | _, _, 0, _ => .nil
  | _, _, _ + 1, .nil => .nil
  | _, _, n + 1, .cons h t => .cons h (Reps.take n t)
theorem Reps.drop {c : Cf} {Ψ : Wd} : ∀ {vs : List V} {ds : List D} (n : Nat), Reps c Ψ vs ds → Reps c Ψ (vs.drop n) (ds.drop n)
  | _, _, 0, h => h
  | _, _, _ + 1, .nil => .nil
  | _, _, n + 1, .cons _ t => Reps.drop n t
theorem Reps.set {c : Cf} {Ψ : Wd} {v : V} {d : D} (r : Rep c Ψ v d) : ∀ {vs : List V} {ds : List D} (i : Nat), Reps c Ψ vs ds → Reps c Ψ (vs.set i v) (ds.set i d)
  | _, _, _, .nil => .nil
  | _, _, 0, .cons _ t => .cons r t
  | _, _, i + 1, .cons h t => .cons h (Reps.set r i t)
theorem Reps.erase {c : Cf} {Ψ : Wd} : ∀ {vs : List V} {ds : List D} (i : Nat), Reps c Ψ vs ds → Reps c Ψ (vs.eraseIdx i) (ds.eraseIdx i)
  | _, _, _, .nil => .nil
  | _, _, 0, .cons _ t => t
  | _, _, i + 1, .cons h t => .cons h (Reps.erase i t)
theorem Reps.rev {c : Cf} {Ψ : Wd} : ∀ {vs : List V} {ds : List D}, Reps c Ψ vs ds → Reps c Ψ vs.reverse ds.reverse
  | _, _, .nil => .nil
  | _, _, .cons h t => by rw [List.reverse_cons, List.reverse_cons]; exact Reps.app (Reps.rev t) (.cons h .nil)
theorem Reps.flat {c : Cf} {Ψ : Wd} {vs : List V} {ds : List D} (r : Reps c Ψ vs ds) : ∀ k : Nat, Reps c Ψ (List.replicate k vs).flatten (List.replicate k ds).flatten
  | 0 => .nil
  | k + 1 => by
    rw [List.replicate_succ, List.replicate_succ, List.flatten_cons, List.flatten_cons]
    exact r.app (Reps.flat r k)

/-! dicts whose keys are nested tuples -/
mutual
def nkD : D → Option NestedKey
  | .non => some .none
  | .int i => some (.num i)
  | .bl b => some (.num (if b = true then 1 else 0))
  | .str x => some (.text x)
  | .tup ds => match nkDs ds with
    | some ks => some (.tup ks)
    | none => none
  | _ => none
def nkDs : List D → Option (List NestedKey)
  | [] => some []
  | d :: ds => match nkD d with
    | some k => (match nkDs ds with
      | some ks => some (k :: ks)
      | none => none)
    | none => none
end
/-- at a stands a dict with these entries: its keys' tuples by their addresses -/
def DictEnt (w : World) (a : Addr) (es : List (NestedKey × Addr × V)) : Heap → Prop := fun h => (a == sysModules) = false ∧ es.length ≤ LIM ∧
  ∃ xs : List (NestedKey × Addr × Value), Paired (fun (p : NestedKey × Addr × V) (q : NestedKey × Addr × Value) => p.1 = q.1 ∧ p.2.1 = q.2.1 ∧ RelV p.2.2 q.2.2) es xs ∧
    ∃ o ens ep, h.get? a = some o ∧ o.ExactDict ∧ o.data = .dict ens ep ∧ ens.toList = xs.map (fun x => (⟨x.1.hash w, .ref x.2.1, x.2.2⟩ : DictEntry)) ∧ (xs.map (·.1)).Nodup
def ERep (c : Cf) (Ψ : Wd) (e : NestedKey × Addr × V) (kd : D × D) : Prop := Rep c Ψ (.ref e.2.1) kd.1 ∧ nkD kd.1 = some e.1 ∧ e.1.depth ≤ 8 ∧ Rep c Ψ e.2.2 kd.2
abbrev EReps (c : Cf) (Ψ : Wd) : List (NestedKey × Addr × V) → List (D × D) → Prop := Paired (ERep c Ψ)
theorem EReps.mono {c : Cf} {Ψ Ψ' : Wd} (x : Le Ψ Ψ') {es : List (NestedKey × Addr × V)} {ks : List (D × D)} (h : EReps c Ψ es ks) : EReps c Ψ' es ks := Paired.mapP h fun _ _ r => ⟨r.1.mono x, r.2.1, r.2.2.1, r.2.2.2.mono x⟩
def Foot (Ψ : Wd) (b : Addr) : Prop := (∃ (n : Nat) (p : Addr × Addr), Ψ.sh[n]? = some p ∧ (b = p.1 ∨ b = p.2)) ∨ ∃ q, (b, q) ∈ Ψ.tb
/-- a table of code objects: they are known, all by one name -/
def TabOk (Ψ : Wd) (H : Hp) (p : Addr × Str) : Prop := ∃ ps : Array Value, H p.1 = some (.tbl ps) ∧ TriplesOk ps.toList ∧ ∀ (pos : Pos) (cv : Value), codeAmong pos ps.toList = some cv → ∃ a, cv = .ref a ∧ Ψ.fz a = some (LamX.CodeO a p.2)
/-- from (Ψ, H) to (Ψ', H'): only shared objects have changed, what is newly known is new -/
structure Ext (Ψ : Wd) (H : Hp) (Ψ' : Wd) (H' : Hp) : Prop where
  le : Le Ψ Ψ'
  dom : ∀ b, H' b = none → H b = none
  nphi : ∀ a o, Ψ'.fz a = some o → Ψ.fz a = some o ∨ H a = none ∨ Foot Ψ a
  nmu : ∀ b, Foot Ψ' b → Foot Ψ b ∨ H b = none
  keep : ∀ b o, H b = some o → ¬ Foot Ψ b → H' b = some o
def ObOk (c : Cf) (Ψ : Wd) (H : Hp) (p : Addr × Addr) : Ob → Prop
  | .lst ds => ∃ vs, H p.1 = some (.lst vs) ∧ p.2 = p.1 ∧ vs.length ≤ LIM ∧ Reps c Ψ vs ds
  | .ins k fs => ∃ vs, SlX.Slt H p.1 (c.cls k) p.2 (vs.map some) ∧ p.2 ≠ p.1 ∧ H p.2 ≠ none ∧ Reps c Ψ vs fs
  | .dct ks => ∃ es, H p.1 = some (.ext (DictEnt c.w p.1 es)) ∧ p.2 = p.1 ∧ EReps c Ψ es ks
  | .dctF ks => ∃ od es, Ψ.fz p.1 = some (.frz od (.ext (DictEnt c.w p.1 es))) ∧ p.2 = p.1 ∧ EReps c Ψ es ks
structure StoOk (c : Cf) (Ψ : Wd) (H : Hp) (S : Sto) : Prop where
  phi : ∀ a o, Ψ.fz a = some o → H a = some o
  off : ∀ (n : Nat) (p : Addr × Addr) (o : Ob), Ψ.sh[n]? = some p → S[n]? = some o → o.opn = true → Ψ.fz p.1 = none ∧ Ψ.fz p.2 = none
  offT : ∀ p ∈ Ψ.tb, Ψ.fz p.1 = none
  nd : ∀ (i j : Nat) (p q : Addr × Addr), Ψ.sh[i]? = some p → Ψ.sh[j]? = some q → i ≠ j → p.1 ≠ q.1 ∧ p.1 ≠ q.2 ∧ p.2 ≠ q.1 ∧ p.2 ≠ q.2
  len : Ψ.sh.length = S.length
  tbc : Ψ.tb = c.tb
  tab : ∀ p ∈ Ψ.tb, TabOk Ψ H p
  tnd : ∀ p ∈ Ψ.tb, ∀ (n : Nat) (s : Addr × Addr), Ψ.sh[n]? = some s → s.1 ≠ p.1 ∧ s.2 ≠ p.1
  obj : ∀ (n : Nat) (o : Ob), S[n]? = some o → ∃ p : Addr × Addr, Ψ.sh[n]? = some p ∧ ObOk c Ψ H p o
theorem Slt.there {H : Hp} {a C dx : Addr} {vs : List (Option V)} (h : SlX.Slt H a C dx vs) : H a ≠ none := by
  rcases h with h | h <;> (rw [h.1]; exact fun z => nomatch z)
theorem StoOk.foot {c : Cf} {Ψ : Wd} {H : Hp} {S : Sto} (s : StoOk c Ψ H S) {b : Addr} (f : ∃ (n : Nat) (p : Addr × Addr), Ψ.sh[n]? = some p ∧ (b = p.1 ∨ b = p.2)) : ∃ (n : Nat) (p : Addr × Addr) (o : Ob), Ψ.sh[n]? = some p ∧ S[n]? = some o ∧ (b = p.1 ∨ b = p.2) := by
  obtain ⟨n, p, h, e⟩ := f
  have hl : n < S.length := by rw [← s.len]; exact (List.getElem?_eq_some_iff.mp h).1
  exact ⟨n, p, S[n], h, List.getElem?_eq_getElem hl, e⟩
theorem Ext.refl (Ψ : Wd) (H : Hp) : Ext Ψ H Ψ H := ⟨Le.refl _, fun _ h => h, fun _ _ h => .inl h, fun _ h => .inl h, fun _ _ h _ => h⟩
theorem Ext.trans {A B C : Wd} {H H1 H2 : Hp} (x : Ext A H B H1) (y : Ext B H1 C H2) : Ext A H C H2 where
  le := x.le.trans y.le
  dom := fun b h => x.dom b (y.dom b h)
  nphi := fun a o h => by
    rcases y.nphi a o h with h | h | h
    · exact x.nphi a o h
    · exact .inr (.inl (x.dom a h))
    · rcases x.nmu a h with h | h
      · exact .inr (.inr h)
      · exact .inr (.inl h)
  nmu := fun b h => by
    rcases y.nmu b h with h | h
    · exact x.nmu b h
    · exact .inr (x.dom b h)
  keep := fun b o h n => by
    refine y.keep b o (x.keep b o h n) fun f => ?_
    rcases x.nmu b f with z | z
    · exact n z
    · rw [h] at z; cases z

/-- a place of the frame -/
inductive Slot where
  | no
  | val (d : D)
  | own (ds : List D)
  | ownI (k : Nat) (fs : List (Option D))
  | ownD (ks : List (Key × D))
abbrev Env := List Slot
def RepsO (c : Cf) (Ψ : Wd) (vs : List (Option V)) (fs : List (Option D)) : Prop := ∀ (i : Nat) (d : D), fs[i]? = some (some d) → ∃ v, vs[i]? = some (some v) ∧ Rep c Ψ v d
def SlotOk (c : Cf) (Ψ : Wd) (H : Hp) (F : List Addr) (o : Option (Option V)) : Slot → Prop
  | .no => F = []
  | .val d => F = [] ∧ ∃ v, o = some (some v) ∧ Rep c Ψ v d
  | .own ds => ∃ a vs, F = [a] ∧ o = some (some (.ref a)) ∧ H a = some (.lst vs) ∧ vs.length ≤ LIM ∧ Reps c Ψ vs ds
  | .ownI k fs => ∃ a dx vs, F = [a, dx] ∧ o = some (some (.ref a)) ∧ SlX.Slt H a (c.cls k) dx vs ∧ H dx ≠ none ∧ dx ≠ a ∧ vs.length ≤ fs.length ∧ RepsO c Ψ vs fs
  | .ownD ks => ∃ a kvs, F = [a] ∧ o = some (some (.ref a)) ∧ H a = some (.dK kvs) ∧ kvs.map (·.1) = ks.map (·.1) ∧ Reps c Ψ (kvs.map (·.2)) (ks.map (·.2))
structure EnvOk (c : Cf) (Ψ : Wd) (σ : L2.St) (ρ : Env) (H : Hp) (F : Nat → List Addr) : Prop where
  len : σ.length = ρ.length
  slot : ∀ (i : Nat) s, ρ[i]? = some s → SlotOk c Ψ H (F i) σ[i]? s
  out : ∀ (i : Nat), ρ[i]? = none → F i = []
  priv : ∀ i b, b ∈ F i → Ψ.fz b = none ∧ ¬ Foot Ψ b ∧ H b ≠ none
  sep : ∀ i j b, i ≠ j → b ∈ F i → b ∉ F j
theorem Slt.keep {H H' : Hp} {a C dx : Addr} {vs : List (Option V)} (h : SlX.Slt H a C dx vs) (k : ∀ b, b = a ∨ b = dx → ∀ o, H b = some o → H' b = some o) : SlX.Slt H' a C dx vs := by
  rcases h with h | h
  · exact .inl ⟨k a (.inl rfl) _ h.1, h.2⟩
  · exact .inr ⟨k a (.inl rfl) _ h.1, k dx (.inr rfl) _ h.2⟩
theorem RepsO.mono {c : Cf} {Ψ Ψ' : Wd} (x : Le Ψ Ψ') {vs : List (Option V)} {fs : List (Option D)} (h : RepsO c Ψ vs fs) : RepsO c Ψ' vs fs := fun i d e => by
  obtain ⟨v, h1, h2⟩ := h i d e
  exact ⟨v, h1, h2.mono x⟩
theorem SlotOk.keep {c : Cf} {Ψ Ψ' : Wd} {H H' : Hp} {F : List Addr} {o : Option (Option V)} {s : Slot} (h : SlotOk c Ψ H F o s) (x : Le Ψ Ψ') (k : ∀ b ∈ F, ∀ u, H b = some u → H' b = some u) : SlotOk c Ψ' H' F o s := by
  cases s with
  | no => exact h
  | val d => obtain ⟨e, v, h1, h2⟩ := h; exact ⟨e, v, h1, h2.mono x⟩
  | own ds => obtain ⟨a, vs, e, h1, h2, l, h3⟩ := h; exact ⟨a, vs, e, h1, k a (by rw [e]; simp) _ h2, l, h3.mono x⟩
  | ownD ks => obtain ⟨a, vs, e, h1, h2, l, h3⟩ := h; exact ⟨a, vs, e, h1, k a (by rw [e]; simp) _ h2, l, h3.mono x⟩
  | ownI kk fs =>
    obtain ⟨a, dx, vs, e, h1, h2, h3, ne, l, h4⟩ := h
    refine ⟨a, dx, vs, e, h1, Slt.keep h2 (fun b hb => k b (by rw [e]; rcases hb with rfl | rfl <;> simp)), fun z => ?_, ne, l, h4.mono x⟩
    cases q : H dx with
    | none => exact h3 q
    | some u => rw [k dx (by rw [e]; simp) u q] at z; cases z
theorem EnvOk.ext {c : Cf} {Ψ Ψ' : Wd} {σ : L2.St} {ρ : Env} {H H' : Hp} {F : Nat → List Addr} (e : EnvOk c Ψ σ ρ H F) (x : Ext Ψ H Ψ' H') : EnvOk c Ψ' σ ρ H' F := by
  refine ⟨e.len, fun i s hs => (e.slot i s hs).keep x.le fun b hb u hu => x.keep b u hu (e.priv i b hb).2.1, e.out, fun i b hb => ?_, e.sep⟩
  obtain ⟨p1, p2, p3⟩ := e.priv i b hb
  refine ⟨?_, fun f => ?_, fun z => p3 (x.dom b z)⟩
  · cases q : Ψ'.fz b with
    | none => rfl
    | some o =>
      rcases x.nphi b o q with z | z | z
      · rw [p1] at z; cases z
      · exact absurd z p3
      · exact absurd z p2
  · rcases x.nmu b f with z | z
    · exact p2 z
    · exact p3 z
end Sm

/-! text: Sim2 -/
set_option Elab.async false
set_option linter.all false
set_option maxRecDepth 100000
set_option maxHeartbeats 1000000
namespace Sm
open PySem PySem.Spec PyProof.Rows L2

/-- what is told of an exception: its own dict, where it has fields -/
def XRep (c : Cf) (Ψ : Wd) (fs : List D) (d : Option Addr) : Prop := match fs with
  | [] => d = none
  | [.str x, f] => ∃ dd v, d = some dd ∧ Ψ.fz dd = some (.xd [(x, v)]) ∧ Rep c Ψ v f
  | _ => False
def ErrP (c : Cf) (W : XK) (Ψ : Wd) (H : Hp) (k : Nat) (fs : List D) (S : Sto) : Prop :=
  ∀ Ψ' d H', Ext Ψ H Ψ' H' → StoOk c Ψ' H' S → XRep c Ψ' fs d → W (.ref (c.cls k)) d H'
def Post (c : Cf) {α : Type} (W : XK) (Ψ : Wd) (H : Hp) (r : Res α) (R : α → Sto → Prop) : Prop := match r with
  | .ok a S => R a S
  | .err k fs S => ErrP c W Ψ H k fs S
  | .stuck => False
theorem ErrP.mono {c : Cf} {W : XK} {Ψ Ψ' : Wd} {H H' : Hp} {k : Nat} {fs : List D} {S : Sto} (x : Ext Ψ H Ψ' H') (h : ErrP c W Ψ H k fs S) : ErrP c W Ψ' H' k fs S :=
  fun Ψ2 d H2 y => h Ψ2 d H2 (x.trans y)
theorem Post.mono {c : Cf} {α : Type} {W : XK} {Ψ : Wd} {H : Hp} {r : Res α} {R R' : α → Sto → Prop} (h : Post c W Ψ H r R) (k : ∀ a S, R a S → R' a S) : Post c W Ψ H r R' := by
  cases r with
  | ok a S => exact k a S h
  | err k fs S => exact h
  | stuck => exact h
theorem Post.bd {c : Cf} {α β : Type} {W : XK} {Ψ : Wd} {H : Hp} {m : M α} {f : α → M β} {S : Sto} {R : β → Sto → Prop} (h : Post c W Ψ H (bd m f S) R) :
    Post c W Ψ H (m S) fun a S1 => Post c W Ψ H (f a S1) R := by
  unfold Sm.bd at h
  cases e : m S with
  | ok a S1 => rw [e] at h; exact h
  | err k fs S1 => rw [e] at h; exact h
  | stuck => rw [e] at h; exact h.elim
theorem Post.ext {c : Cf} {α : Type} {W : XK} {Ψ Ψ' : Wd} {H H' : Hp} {r : Res α} {R : α → Sto → Prop} (x : Ext Ψ H Ψ' H') (h : Post c W Ψ H r R) : Post c W Ψ' H' r R := by
  cases r with
  | ok a S => exact h
  | err k fs S => exact ErrP.mono x h
  | stuck => exact h
theorem Post.noX {c : Cf} {α : Type} {W W' : XK} {Ψ : Wd} {H : Hp} {m : M α} {S : Sto} {R : α → Sto → Prop} (h : Post c W Ψ H (noX m S) R) : Post c W' Ψ H (m S) R := by
  unfold Sm.noX at h
  cases e : m S with
  | ok a S1 => rw [e] at h; exact h
  | err k fs S1 => rw [e] at h; exact h.elim
  | stuck => rw [e] at h; exact h.elim

/-- it comes to an end, without an error -/
def Ok0 {α : Type} (r : Res α) (R : α → Sto → Prop) : Prop := match r with
  | .ok a S => R a S
  | _ => False
theorem Ok0.mono {α : Type} {r : Res α} {R R' : α → Sto → Prop} (h : Ok0 r R) (k : ∀ a S, R a S → R' a S) : Ok0 r R' := by
  cases r with
  | ok a S => exact k a S h
  | err k fs S => exact h
  | stuck => exact h
theorem Ok0.post {c : Cf} {α : Type} {W : XK} {Ψ : Wd} {H : Hp} {r : Res α} {R : α → Sto → Prop} (h : Ok0 r R) : Post c W Ψ H r R := by
  cases r with
  | ok a S => exact h
  | err k fs S => exact h.elim
  | stuck => exact h.elim
theorem Ok0.bd {α β : Type} {m : M α} {f : α → M β} {S : Sto} {R : β → Sto → Prop} (h : Ok0 (bd m f S) R) : Ok0 (m S) fun a S1 => Ok0 (f a S1) R := by
  unfold Sm.bd at h
  cases e : m S with
  | ok a S1 => rw [e] at h; exact h
  | err k fs S1 => rw [e] at h; exact h.elim
  | stuck => rw [e] at h; exact h.elim
theorem Post.ok0 {c : Cf} {α : Type} {W : XK} {Ψ : Wd} {H : Hp} {m : M α} {S : Sto} {R : α → Sto → Prop} (h : Post c W Ψ H (Sm.noX m S) R) : Ok0 (m S) R := by
  unfold Sm.noX at h
  cases e : m S with
  | ok a S1 => rw [e] at h; exact h
  | err k fs S1 => rw [e] at h; exact h.elim
  | stuck => rw [e] at h; exact h.elim

/-- a list that is only read may stand as the frame's own -/
def RepB (c : Cf) (Ψ : Wd) (σ : L2.St) (ρ : Env) (v : V) (d : D) : Prop := Rep c Ψ v d ∨ ∃ (i : Nat) (ds : List D), d = .lst ds ∧ ρ[i]? = some (.own ds) ∧ σ[i]? = some (some v)
/-- .. by the heap -/
def RepH (c : Cf) (Ψ : Wd) (H : Hp) (v : V) (d : D) : Prop := Rep c Ψ v d ∨ ∃ a vs ds, v = .ref a ∧ d = .lst ds ∧ H a = some (.lst vs) ∧ vs.length ≤ LIM ∧ Reps c Ψ vs ds
theorem RepB.h {c : Cf} {Ψ : Wd} {σ : L2.St} {ρ : Env} {H : Hp} {F : Nat → List Addr} {v : V} {d : D} (e : EnvOk c Ψ σ ρ H F) (r : RepB c Ψ σ ρ v d) : RepH c Ψ H v d := by
  rcases r with r | ⟨i, ds, rfl, h1, h2⟩
  · exact .inl r
  · obtain ⟨a, vs, _, z, h3, l, h4⟩ := e.slot i _ h1
    rw [h2] at z
    exact .inr ⟨a, vs, ds, by injection z with z; injection z, rfl, h3, l, h4⟩
theorem RepB.mono {c : Cf} {Ψ Ψ' : Wd} {σ : L2.St} {ρ : Env} {v : V} {d : D} (x : Le Ψ Ψ') (r : RepB c Ψ σ ρ v d) : RepB c Ψ' σ ρ v d := r.elim (fun r => .inl (r.mono x)) .inr
inductive RepBs (c : Cf) (Ψ : Wd) (σ : L2.St) (ρ : Env) : List V → List D → Prop
  | nil : RepBs c Ψ σ ρ [] []
  | cons {v : V} {vs : List V} {d : D} {ds : List D} (h : RepB c Ψ σ ρ v d) (t : RepBs c Ψ σ ρ vs ds) : RepBs c Ψ σ ρ (v :: vs) (d :: ds)

/-! ### readings -/
abbrev RN (c : Cf) (Ψ : Wd) (H : Hp) (Q : VK) : List D → Sto → Prop := fun ds S' => ∀ Ψ' a vs H', Ext Ψ H Ψ' H' → StoOk c Ψ' H' S' → H' a = some (.lst vs) → vs.length ≤ LIM → Reps c Ψ' vs ds → Ψ'.fz a = none → ¬ Foot Ψ' a → H a = none → Q (.ref a) H'
section
variable (c : Cf) (W : L2.St → XK)
def rB (m : Env → M D) : TE := fun σ H Q => ∃ Ψ ρ S F, StoOk c Ψ H S ∧ EnvOk c Ψ σ ρ H F ∧
  Post c (W σ) Ψ H (m ρ S) fun d S' => ∀ Ψ' v H', Ext Ψ H Ψ' H' → StoOk c Ψ' H' S' → RepB c Ψ' σ ρ v d → Q v H'
def rE (m : Env → M D) : TE := fun σ H Q => ∃ Ψ ρ S F, StoOk c Ψ H S ∧ EnvOk c Ψ σ ρ H F ∧
  Post c (W σ) Ψ H (m ρ S) fun d S' => ∀ Ψ' v H', Ext Ψ H Ψ' H' → StoOk c Ψ' H' S' → Rep c Ψ' v d → Q v H'
/-- a list that no one knows as yet -/
def rN (m : Env → M (List D)) : TE := fun σ H Q => ∃ Ψ ρ S F, StoOk c Ψ H S ∧ EnvOk c Ψ σ ρ H F ∧
  Post c (W σ) Ψ H (m ρ S) (RN c Ψ H Q)
def rT (m : Env → M Bool) : TT := fun σ H Q => ∃ Ψ ρ S F, StoOk c Ψ H S ∧ EnvOk c Ψ σ ρ H F ∧
  Post c (W σ) Ψ H (m ρ S) fun b S' => ∀ Ψ' H', Ext Ψ H Ψ' H' → StoOk c Ψ' H' S' → Q b H'
def rA (m : Env → M (List D)) : TA := fun σ H Q => ∃ Ψ ρ S F, StoOk c Ψ H S ∧ EnvOk c Ψ σ ρ H F ∧
  Post c (W σ) Ψ H (m ρ S) fun ds S' => ∀ Ψ' vs H', Ext Ψ H Ψ' H' → StoOk c Ψ' H' S' → Reps c Ψ' vs ds → Q vs H'
def rAB (m : Env → M (List D)) : TA := fun σ H Q => ∃ Ψ ρ S F, StoOk c Ψ H S ∧ EnvOk c Ψ σ ρ H F ∧
  Post c (W σ) Ψ H (m ρ S) fun ds S' => ∀ Ψ' vs H', Ext Ψ H Ψ' H' → StoOk c Ψ' H' S' → RepBs c Ψ' σ ρ vs ds → Q vs H'
end

/-- judgements. SB: read at once; SE: a value that may be kept; SN: a new list -/
structure SB (c : Cf) (X : Cx) (W : L2.St → XK) (e : Expr) (m : Env → M D) : Prop where
  k : X.K = c.K
  p : PE X e (rB c W m)
structure SE (c : Cf) (X : Cx) (W : L2.St → XK) (e : Expr) (m : Env → M D) : Prop where
  k : X.K = c.K
  p : PE X e (rE c W m)
structure SN (c : Cf) (X : Cx) (W : L2.St → XK) (e : Expr) (m : Env → M (List D)) : Prop where
  k : X.K = c.K
  p : PE X e (rN c W m)
structure ST (c : Cf) (X : Cx) (W : L2.St → XK) (e : Expr) (m : Env → M Bool) : Prop where
  k : X.K = c.K
  p : PT X e (rT c W m)
structure SA (c : Cf) (X : Cx) (W : L2.St → XK) (es : List Expr) (m : Env → M (List D)) : Prop where
  k : X.K = c.K
  p : PA X es (rA c W m)
structure SAB (c : Cf) (X : Cx) (W : L2.St → XK) (es : List Expr) (m : Env → M (List D)) : Prop where
  k : X.K = c.K
  p : PA X es (rAB c W m)

theorem PE.imp {X : Cx} {e : Expr} {t u : TE} (h : PE X e t) (k : ∀ σ H Q, u σ H Q → t σ H Q) : PE X e u := ⟨fun pins s σ H Q I q => h.run pins s σ H Q I (k _ _ _ q)⟩
theorem PT.imp {X : Cx} {e : Expr} {t u : TT} (h : PT X e t) (k : ∀ σ H Q, u σ H Q → t σ H Q) : PT X e u := ⟨fun pins s σ H Q I q => h.run pins s σ H Q I (k _ _ _ q)⟩
theorem PW.imp {X : Cx} {e : Expr} {t u : TT} (h : PW X e t) (k : ∀ σ H Q, u σ H Q → t σ H Q) : PW X e u := ⟨fun wh pins s σ H Q I q => h.run wh pins s σ H Q I (k _ _ _ q)⟩
theorem PA.imp {X : Cx} {es : List Expr} {t u : TA} (h : PA X es t) (k : ∀ σ H Q, u σ H Q → t σ H Q) : PA X es u := ⟨fun pos pins s σ H Q I q => h.run pos pins s σ H Q I (k _ _ _ q)⟩
theorem PS.imp {X : Cx} {st : Stmt} {t u : TS} (h : PS X st t) (k : ∀ D σ H, u D σ H → t D σ H) : PS X st u := ⟨fun pins s σ H D I q => h.run pins s σ H D I (k _ _ _ q)⟩
theorem PSs.imp {X : Cx} {st : List Stmt} {t u : TS} (h : PSs X st t) (k : ∀ D σ H, u D σ H → t D σ H) : PSs X st u := ⟨fun pins s σ H D I q => h.run pins s σ H D I (k _ _ _ q)⟩

/-! ### the new -/
/-- a new object is laid: nothing is known of it as yet -/
theorem Ext.lay {Ψ : Wd} {H : Hp} {p : Addr} {o : HO} (hp : H p = none) : Ext Ψ H Ψ (upd H p o) :=
  ⟨Le.refl _, fun b h => by
    by_cases e : b = p
    · subst e; exact hp
    · rw [upd_ne e] at h; exact h, fun _ _ h => .inl h, fun _ h => .inl h, fun b u h _ => by rw [upd_ne (ne_of_none h hp)]; exact h⟩
theorem StoOk.ofKeep {c : Cf} {Ψ : Wd} {H H' : Hp} {S : Sto} (s : StoOk c Ψ H S) (k : ∀ b o, H b = some o → H' b = some o) : StoOk c Ψ H' S where
  phi := fun a o h => k _ _ (s.phi a o h)
  off := s.off
  offT := s.offT
  nd := s.nd
  len := s.len
  tbc := s.tbc
  tab := fun p hp => let ⟨ps, h1, h2⟩ := s.tab p hp; ⟨ps, k _ _ h1, h2⟩
  tnd := s.tnd
  obj := fun n o h => by
    obtain ⟨p, h1, h2⟩ := s.obj n o h
    refine ⟨p, h1, ?_⟩
    cases o with
    | lst ds => obtain ⟨vs, a, b, l, d⟩ := h2; exact ⟨vs, k _ _ a, b, l, d⟩
    | dct ks => obtain ⟨es, a, b, d⟩ := h2; exact ⟨es, k _ _ a, b, d⟩
    | dctF ks => exact h2
    | ins kk fs =>
      obtain ⟨vs, a, b, nz, d⟩ := h2
      refine ⟨vs, Slt.keep a (fun b _ => k b), b, fun z => ?_, d⟩
      cases q : H p.2 with
      | none => exact nz q
      | some u => rw [k _ u q] at z; cases z
theorem StoOk.lay {c : Cf} {Ψ : Wd} {H : Hp} {S : Sto} (s : StoOk c Ψ H S) {p : Addr} {o : HO} (hp : H p = none) : StoOk c Ψ (upd H p o) S :=
  s.ofKeep fun b u h => by rw [upd_ne (ne_of_none h hp)]; exact h
/-- an object becomes known -/
def Wd.know (Ψ : Wd) (a : Addr) (o : HO) : Wd := ⟨upd Ψ.fz a o, Ψ.sh, Ψ.tb⟩
theorem Foot.know {Ψ : Wd} {a b : Addr} {o : HO} : Foot (Ψ.know a o) b ↔ Foot Ψ b := Iff.rfl
theorem Le.know {Ψ : Wd} {a : Addr} {o : HO} (h : Ψ.fz a = none) : Le Ψ (Ψ.know a o) := ⟨fun b u e => by show upd Ψ.fz a o b = _; rw [upd_ne (ne_of_none e h)]; exact e, fun _ _ e => e, rfl⟩
theorem StoOk.know {c : Cf} {Ψ : Wd} {H : Hp} {S : Sto} (s : StoOk c Ψ H S) {a : Addr} {o : HO} (h : H a = some o) (n : Ψ.fz a = none) (f : ¬ Foot Ψ a) : StoOk c (Ψ.know a o) H S where
  phi := fun b u e => by
    by_cases q : b = a
    · subst q
      have e' : upd Ψ.fz b o b = some u := e
      rw [upd_same] at e'; cases e'; exact h
    · have e' : upd Ψ.fz a o b = some u := e
      rw [upd_ne q] at e'; exact s.phi b u e'
  off := fun n p u h1 h2 h3 => by
    obtain ⟨g1, g2⟩ := s.off n p u h1 h2 h3
    have q1 : p.1 ≠ a := fun z => f (.inl ⟨n, p, h1, .inl z.symm⟩)
    have q2 : p.2 ≠ a := fun z => f (.inl ⟨n, p, h1, .inr z.symm⟩)
    exact ⟨by show upd Ψ.fz a o p.1 = none; rw [upd_ne q1]; exact g1, by show upd Ψ.fz a o p.2 = none; rw [upd_ne q2]; exact g2⟩
  offT := fun p hp => by
    show upd Ψ.fz a o p.1 = none
    have q : p.1 ≠ a := fun z => f (.inr ⟨p.2, by rw [← z]; exact hp⟩)
    rw [upd_ne q]; exact s.offT p hp
  nd := s.nd
  len := s.len
  tbc := s.tbc
  tab := fun p hp => let ⟨ps, h1, h2, h3⟩ := s.tab p hp; ⟨ps, h1, h2, fun pos cv hc => let ⟨a, e1, e2⟩ := h3 pos cv hc; ⟨a, e1, (Le.know n).phi _ _ e2⟩⟩
  tnd := s.tnd
  obj := fun i u e => by
    obtain ⟨p, h1, h2⟩ := s.obj i u e
    refine ⟨p, h1, ?_⟩
    cases u with
    | lst ds => obtain ⟨vs, a, b, l, d⟩ := h2; exact ⟨vs, a, b, l, d.mono (Le.know n)⟩
    | dct ks => obtain ⟨es, a, b, d⟩ := h2; exact ⟨es, a, b, d.mono (Le.know n)⟩
    | dctF ks => obtain ⟨od, es, a, b, d⟩ := h2; exact ⟨od, es, (Le.know n).phi _ _ a, b, d.mono (Le.know n)⟩
    | ins kk fs => obtain ⟨vs, a, b, nz, d⟩ := h2; exact ⟨vs, a, b, nz, d.mono (Le.know n)⟩
/-- laid and known at once -/
theorem Ext.new {Ψ : Wd} {H : Hp} {p : Addr} {o : HO} (hp : H p = none) (n : Ψ.fz p = none) : Ext Ψ H (Ψ.know p o) (upd H p o) where
  le := Le.know n
  dom := (Ext.lay (Ψ := Ψ) hp).dom
  nphi := fun a u h => by
    by_cases e : a = p
    · subst e; exact .inr (.inl hp)
    · have h' : upd Ψ.fz p o a = some u := h
      rw [upd_ne e] at h'; exact .inl h'
  nmu := fun b h => .inl h
  keep := (Ext.lay (Ψ := Ψ) hp).keep
theorem StoOk.phiNone {c : Cf} {Ψ : Wd} {H : Hp} {S : Sto} (s : StoOk c Ψ H S) {p : Addr} (hp : H p = none) : Ψ.fz p = none := by
  cases e : Ψ.fz p with
  | none => rfl
  | some o => rw [s.phi p o e] at hp; cases hp
theorem StoOk.footNone {c : Cf} {Ψ : Wd} {H : Hp} {S : Sto} (s : StoOk c Ψ H S) {b : Addr} (hp : H b = none) : ¬ Foot Ψ b := fun f => by
  rcases Or.symm f with ⟨q, f⟩ | f
  · obtain ⟨ps, h1, _⟩ := s.tab _ f
    have h1' : H b = _ := h1
    rw [hp] at h1'; cases h1'
  obtain ⟨n, p, o, h1, h2, e⟩ := s.foot f
  obtain ⟨p', h3, h4⟩ := s.obj n o h2
  rw [h1] at h3
  cases h3
  cases o with
  | lst ds =>
    obtain ⟨vs, a, b', _⟩ := h4
    rcases e with rfl | rfl
    · rw [a] at hp; cases hp
    · rw [b', a] at hp; cases hp
  | dct ks =>
    obtain ⟨es, a, b', _⟩ := h4
    rcases e with rfl | rfl
    · rw [a] at hp; cases hp
    · rw [b', a] at hp; cases hp
  | dctF ks =>
    obtain ⟨od, es, a, b', _⟩ := h4
    have a := s.phi _ _ a
    rcases e with rfl | rfl
    · rw [a] at hp; cases hp
    · rw [b', a] at hp; cases hp
  | ins k fs =>
    obtain ⟨vs, a, _, nz, _⟩ := h4
    rcases e with rfl | rfl
    · exact Slt.there a hp
    · exact nz hp
theorem StoOk.new {c : Cf} {Ψ : Wd} {H : Hp} {S : Sto} (s : StoOk c Ψ H S) {p : Addr} {o : HO} (hp : H p = none) : StoOk c (Ψ.know p o) (upd H p o) S :=
  (s.lay hp).know upd_same (s.phiNone hp) (s.footNone hp)
end Sm

/-! text: Sim3 -/
set_option Elab.async false
set_option linter.all false
set_option maxRecDepth 100000
set_option maxHeartbeats 1000000
namespace Sm
open PySem PySem.Spec PyProof.Rows L2

/-! ### what RepH tells -/
section
variable {c : Cf} {Ψ : Wd} {H : Hp} {S : Sto} {v : V}
theorem sqT_phi {K : PySem.W.Frag} (s : StoOk c Ψ H S) {a : Addr} {vs : List V} (h : SqT K Ψ.fz a vs) : SqT K H a vs := by
  rcases h with (h | ⟨o, h⟩) | h
  · exact .inl (.inl (s.phi _ _ h))
  · exact .inl (.inr ⟨o, s.phi _ _ h⟩)
  · exact .inr h
theorem slt_phi (s : StoOk c Ψ H S) {a C dx : Addr} {vs : List (Option V)} (h : SlX.Slt Ψ.fz a C dx vs) : SlX.Slt H a C dx vs :=
  h.elim (fun h => .inl ⟨s.phi _ _ h.1, h.2⟩) fun h => .inr ⟨s.phi _ _ h.1, s.phi _ _ h.2⟩
theorem RepH.lst (s : StoOk c Ψ H S) {ds : List D} (h : RepH c Ψ H v (.lst ds)) : ∃ a vs, v = .ref a ∧ H a = some (.lst vs) ∧ vs.length ≤ LIM ∧ Reps c Ψ vs ds := by
  rcases h with h | ⟨a, vs, ds', rfl, e, h1, l, h2⟩
  · cases h with
    | lst h l r => exact ⟨_, _, rfl, s.phi _ _ h, l, r⟩
  · injection e with e; subst e; exact ⟨a, vs, rfl, h1, l, h2⟩
theorem RepH.rep {d : D} (h : RepH c Ψ H v d) (n : ∀ ds, d ≠ .lst ds) : Rep c Ψ v d := by
  rcases h with h | ⟨a, vs, ds', rfl, e, h1, l, h2⟩
  · exact h
  · exact absurd e (n _)
theorem RepH.tup (s : StoOk c Ψ H S) {ds : List D} (h : RepH c Ψ H v (.tup ds)) : ∃ a vs, v = .ref a ∧ SqT c.K H a vs ∧ vs.length ≤ LIM ∧ Reps c Ψ vs ds := by
  cases h.rep (fun _ z => by cases z) with
  | tup h0 l0 r0 => exact ⟨_, _, rfl, sqT_phi s h0, l0, r0⟩
theorem sqL_phi {K : PySem.W.Frag} (s : StoOk c Ψ H S) {a : Addr} {vs : List V} (h : SqL K Ψ.fz a vs) : SqL K H a vs := by
  rcases h with (h | ⟨o, h⟩) | h
  · exact .inl (.inl (s.phi _ _ h))
  · exact .inl (.inr ⟨o, s.phi _ _ h⟩)
  · exact .inr h
theorem RepH.scr (s : StoOk c Ψ H S) {ds : List D} (h : RepH c Ψ H v (.scr ds)) : ∃ a vs, v = .ref a ∧ SqL c.K H a vs ∧ vs.length ≤ LIM ∧ Reps c Ψ vs ds := by
  cases h.rep (fun _ z => by cases z) with
  | scr h0 l0 r0 => exact ⟨_, _, rfl, sqL_phi s h0, l0, r0⟩
theorem RepH.int {i : Int} (h : RepH c Ψ H v (.int i)) : v = .int i := by
  cases h.rep (fun _ z => by cases z); rfl
theorem RepH.bl {i : Bool} (h : RepH c Ψ H v (.bl i)) : v = .bl i := by
  cases h.rep (fun _ z => by cases z); rfl
theorem RepH.str {i : Str} (h : RepH c Ψ H v (.str i)) : v = .str i := by
  cases h.rep (fun _ z => by cases z); rfl
theorem RepH.non (h : RepH c Ψ H v .non) : v = .non := by
  cases h.rep (fun _ z => by cases z); rfl
theorem RepH.ref (s : StoOk c Ψ H S) {n : Nat} {o : Ob} (e : S[n]? = some o) (h : RepH c Ψ H v (.ref n)) : ∃ p, Ψ.sh[n]? = some p ∧ v = .ref p.1 ∧ ObOk c Ψ H p o := by
  cases h.rep (fun _ z => by cases z) with
  | obj h =>
    obtain ⟨p, h1, h2⟩ := s.obj n o e
    rw [h] at h1; cases h1
    exact ⟨_, h, rfl, h2⟩
theorem RepH.ins (s : StoOk c Ψ H S) {k : Nat} {fs : List D} (h : RepH c Ψ H v (.ins k fs)) : ∃ a dx vs, v = .ref a ∧ SlX.Slt H a (c.cls k) dx (vs.map some) ∧ Reps c Ψ vs fs := by
  cases h.rep (fun _ z => by cases z) with
  | ins h0 r0 => exact ⟨_, _, _, rfl, slt_phi s h0, r0⟩
theorem RepH.isNon {d : D} (h : RepH c Ψ H v d) : decide (v = .non) = (match d with | .non => true | _ => false) := by
  rcases h with h | ⟨a, vs, ds', rfl, rfl, h1, l, h2⟩
  · cases h <;> first | rfl | exact decide_eq_false (fun z => nomatch z)
  · exact decide_eq_false (fun z => nomatch z)
end

/-! ### data -/
mutual
def D.py : D → Option PyData
  | .non => some .none
  | .bl b => some (.bool b)
  | .int i => some (.int i)
  | .str x => some (.str x)
  | .tup ds => match D.pys ds with
    | some xs => some (.tuple xs)
    | none => none
  | .lst ds => match D.pys ds with
    | some xs => some (.list xs)
    | none => none
  | _ => none
def D.pys : List D → Option (List PyData)
  | [] => some []
  | d :: ds => match D.py d, D.pys ds with
    | some x, some xs => some (x :: xs)
    | _, _ => none
end
mutual
theorem D.plain : ∀ {d : D} {p : PyData}, d.py = some p → p.plain = true
  | .non, _, h => by simp only [D.py, Option.some.injEq] at h; subst h; rfl
  | .bl _, _, h => by simp only [D.py, Option.some.injEq] at h; subst h; rfl
  | .int _, _, h => by simp only [D.py, Option.some.injEq] at h; subst h; rfl
  | .str _, _, h => by simp only [D.py, Option.some.injEq] at h; subst h; rfl
  | .tup ds, _, h => by
    unfold D.py at h
    split at h
    · cases h
      simp only [PyData.plain]
      exact D.plains (by assumption)
    · cases h
  | .lst ds, _, h => by
    unfold D.py at h
    split at h
    · cases h
      simp only [PyData.plain]
      exact D.plains (by assumption)
    · cases h
  | .scr _, _, h => by simp [D.py] at h
  | .ins _ _, _, h => by simp [D.py] at h
  | .dct _, _, h => by simp [D.py] at h
  | .dctL _, _, h => by simp [D.py] at h
  | .ref _, _, h => by simp [D.py] at h
  | .cls _, _, h => by simp [D.py] at h
  | .ty _, _, h => by simp [D.py] at h
  | .pt _, _, h => by simp [D.py] at h
theorem D.plains : ∀ {ds : List D} {ps : List PyData}, D.pys ds = some ps → PyData.plainAll ps = true
  | [], _, h => by simp only [D.pys, Option.some.injEq] at h; subst h; rfl
  | d :: ds, _, h => by
    unfold D.pys at h
    split at h
    · cases h
      simp only [PyData.plainAll, Bool.and_eq_true]
      exact ⟨D.plain (by assumption), D.plains (by assumption)⟩
    · cases h
end
section
variable {c : Cf} {Ψ : Wd} {H : Hp} {S : Sto}
mutual
theorem Rep.dp (s : StoOk c Ψ H S) : ∀ {d : D} {v : V} {p : PyData}, Rep c Ψ v d → d.py = some p → Dp c.K H v p
  | .non, _, _, r, h => by simp only [D.py, Option.some.injEq] at h; subst h; cases r; exact .non
  | .bl _, _, _, r, h => by simp only [D.py, Option.some.injEq] at h; subst h; cases r; exact .bl _
  | .int _, _, _, r, h => by simp only [D.py, Option.some.injEq] at h; subst h; cases r; exact .int _
  | .str _, _, _, r, h => by simp only [D.py, Option.some.injEq] at h; subst h; cases r; exact .str _
  | .tup ds, _, _, r, h => by
    unfold D.py at h
    split at h
    · cases h
      cases r with
      | tup hs l r => exact .tup (sqT_phi s hs) (Reps.dps s r (by assumption))
    · cases h
  | .lst ds, _, _, r, h => by
    unfold D.py at h
    split at h
    · cases h
      cases r with
      | lst hs l r => exact .lst (SqL.of (s.phi _ _ hs)) (Reps.dps s r (by assumption))
    · cases h
  | .scr _, _, _, _, h => by simp [D.py] at h
  | .ins _ _, _, _, _, h => by simp [D.py] at h
  | .dct _, _, _, _, h => by simp [D.py] at h
  | .dctL _, _, _, _, h => by simp [D.py] at h
  | .ref _, _, _, _, h => by simp [D.py] at h
  | .cls _, _, _, _, h => by simp [D.py] at h
  | .ty _, _, _, _, h => by simp [D.py] at h
  | .pt _, _, _, _, h => by simp [D.py] at h
theorem Reps.dps (s : StoOk c Ψ H S) : ∀ {ds : List D} {vs : List V} {ps : List PyData}, Reps c Ψ vs ds → D.pys ds = some ps → DpAll c.K H vs ps
  | [], _, _, r, h => by simp only [D.pys, Option.some.injEq] at h; subst h; cases r; exact .nil
  | d :: ds, _, _, r, h => by
    unfold D.pys at h
    split at h
    · cases h
      cases r with
      | cons r1 r2 => exact .cons (Rep.dp s r1 (by assumption)) (Reps.dps s r2 (by assumption))
    · cases h
end
theorem RepH.dp (s : StoOk c Ψ H S) {d : D} {v : V} {p : PyData} (r : RepH c Ψ H v d) (h : d.py = some p) : Dp c.K H v p := by
  rcases r with r | ⟨a, vs, ds, rfl, rfl, h1, l, h2⟩
  · exact r.dp s h
  · unfold D.py at h
    split at h
    · cases h
      exact .lst (SqL.of h1) (Reps.dps s h2 (by assumption))
    · cases h
end

/-! ### operations by values -/
/-- two operands, no store is changed -/
def V2 (c : Cf) (r : R2) (f : D → D → Sto → Option D) : Prop := ∀ Ψ H S x y a b d Q, StoOk c Ψ H S → RepH c Ψ H x a → RepH c Ψ H y b → f a b S = some d →
  (∀ Ψ' v H', Ext Ψ H Ψ' H' → StoOk c Ψ' H' S → Rep c Ψ' v d → Q v H') → r x y H Q
/-- .. that give a new list -/
def V2N (c : Cf) (r : R2) (f : D → D → Sto → Option (List D)) : Prop := ∀ Ψ H S x y a b ds Q, StoOk c Ψ H S → RepH c Ψ H x a → RepH c Ψ H y b → f a b S = some ds →
  (∀ p vs, H p = none → vs.length ≤ LIM → Reps c Ψ vs ds → Q (.ref p) (upd H p (.lst vs))) → r x y H Q
def V1 (c : Cf) (r : V → Hp → VK → Prop) (f : D → Sto → Option D) : Prop := ∀ Ψ H S x a d Q, StoOk c Ψ H S → RepH c Ψ H x a → f a S = some d →
  (∀ Ψ' v H', Ext Ψ H Ψ' H' → StoOk c Ψ' H' S → Rep c Ψ' v d → Q v H') → r x H Q
def op2 (f : D → D → Sto → Option D) (a b : D) : M D := fun S => match f a b S with
  | some d => .ok d S
  | none => .stuck
def op1 (f : D → Sto → Option D) (a : D) : M D := fun S => match f a S with
  | some d => .ok d S
  | none => .stuck
/-- the value itself, the heap as it is -/
theorem fin0 {c : Cf} {Ψ : Wd} {H : Hp} {S : Sto} {d : D} {Q : VK} {v : V} (s : StoOk c Ψ H S) (q : ∀ Ψ' v H', Ext Ψ H Ψ' H' → StoOk c Ψ' H' S → Rep c Ψ' v d → Q v H') (r : Rep c Ψ v d) : Q v H := q Ψ v H (Ext.refl _ _) s r
/-- a new tuple -/
theorem finT {c : Cf} {Ψ : Wd} {H : Hp} {S : Sto} {ds : List D} {vs : List V} {Q : VK} {p : Addr} (s : StoOk c Ψ H S) (q : ∀ Ψ' v H', Ext Ψ H Ψ' H' → StoOk c Ψ' H' S → Rep c Ψ' v (.tup ds) → Q v H') (l : vs.length ≤ LIM) (r : Reps c Ψ vs ds) (hp : H p = none) : Q (.ref p) (upd H p (.tup vs)) :=
  q _ _ _ (Ext.new hp (s.phiNone hp)) (s.new hp) (.tup (.inl (.inl upd_same)) l (r.mono (Le.know (s.phiNone hp))))
/-- a new list, kept as it is -/
theorem finL {c : Cf} {Ψ : Wd} {H : Hp} {S : Sto} {ds : List D} {vs : List V} {Q : VK} {p : Addr} (s : StoOk c Ψ H S) (q : ∀ Ψ' v H', Ext Ψ H Ψ' H' → StoOk c Ψ' H' S → Rep c Ψ' v (.lst ds) → Q v H') (l : vs.length ≤ LIM) (r : Reps c Ψ vs ds) (hp : H p = none) : Q (.ref p) (upd H p (.lst vs)) :=
  q _ _ _ (Ext.new hp (s.phiNone hp)) (s.new hp) (.lst (show upd Ψ.fz p _ p = _ from upd_same) l (r.mono (Le.know (s.phiNone hp))))
theorem V2N.v2 {c : Cf} {r : R2} {f : D → D → Sto → Option (List D)} (h : V2N c r f) : V2 c r (fun a b S => (f a b S).map .lst) := by
  intro Ψ H S x y a b d Q s ra rb e q
  obtain ⟨ds, e1, rfl⟩ := Option.map_eq_some_iff.mp e
  exact h Ψ H S x y a b ds Q s ra rb e1 fun p vs hp l r => finL s q l r hp
theorem V2.or {c : Cf} {r r' : R2} {f f' : D → D → Sto → Option D} (h : V2 c r f) (h' : V2 c r' f') : V2 c (fun x y H Q => r x y H Q ∨ r' x y H Q) (fun a b S => match f a b S with | some d => some d | none => f' a b S) := by
  intro Ψ H S x y a b d Q s ra rb e q
  dsimp only at e
  cases z : f a b S with
  | some d' => rw [z] at e; cases e; exact .inl (h Ψ H S x y a b _ Q s ra rb z q)
  | none => rw [z] at e; exact .inr (h' Ψ H S x y a b _ Q s ra rb e q)
theorem V1.or {c : Cf} {r r' : V → Hp → VK → Prop} {f f' : D → Sto → Option D} (h : V1 c r f) (h' : V1 c r' f') : V1 c (fun x H Q => r x H Q ∨ r' x H Q) (fun a S => match f a S with | some d => some d | none => f' a S) := by
  intro Ψ H S x a d Q s ra e q
  dsimp only at e
  cases z : f a S with
  | some d' => rw [z] at e; cases e; exact .inl (h Ψ H S x a _ Q s ra z q)
  | none => rw [z] at e; exact .inr (h' Ψ H S x a _ Q s ra e q)

/-- ints -/
def intsD (g : Int → Int → D) : D → D → Sto → Option D := fun a b _ => match a, b with
  | .int i, .int j => some (g i j)
  | _, _ => none
theorem v2_int {c : Cf} {g : Int → Int → V} {g' : Int → Int → D} (hg : ∀ i j Ψ, Rep c Ψ (g i j) (g' i j)) : V2 c (rI0 g) (intsD g') := by
  intro Ψ H S x y a b d Q s ra rb e q
  unfold intsD at e
  split at e
  · cases e
    cases ra.int; cases rb.int
    exact ⟨_, _, rfl, rfl, fin0 s q (hg _ _ _)⟩
  · cases e
def intsIf (C : Int → Int → Bool) (g : Int → Int → D) : D → D → Sto → Option D := fun a b _ => match a, b with
  | .int i, .int j => if C i j = true then some (g i j) else none
  | _, _ => none
theorem v2_intIf {c : Cf} {C : Int → Int → Prop} {C' : Int → Int → Bool} {g : Int → Int → V} {g' : Int → Int → D} (hC : ∀ i j, C' i j = true → C i j) (hg : ∀ i j Ψ, Rep c Ψ (g i j) (g' i j)) : V2 c (rI C g) (intsIf C' g') := by
  intro Ψ H S x y a b d Q s ra rb e q
  unfold intsIf at e
  split at e
  · split at e
    · cases e
      cases ra.int; cases rb.int
      exact ⟨_, _, rfl, rfl, hC _ _ (by assumption), fin0 s q (hg _ _ _)⟩
    · cases e
  · cases e
def addI : D → D → Sto → Option D := intsD fun i j => .int (i + j)
def subI : D → D → Sto → Option D := intsD fun i j => .int (i - j)
theorem v2_addI {c : Cf} : V2 c (rI0 fun i j => .int (i + j)) addI := v2_int fun _ _ _ => .int _
theorem v2_subI {c : Cf} : V2 c (rI0 fun i j => .int (i - j)) subI := v2_int fun _ _ _ => .int _
def smallI (i : Int) : Bool := decide (-(2 ^ 64) < i) && decide (i < 2 ^ 64)
def mulI : D → D → Sto → Option D := intsIf (fun i j => smallI i || smallI j) fun i j => .int (i * j)
theorem v2_mulI {c : Cf} : V2 c (rI CMul fun i j => .int (i * j)) mulI := v2_intIf (fun i j h => by
  simp only [smallI, Bool.or_eq_true, Bool.and_eq_true, decide_eq_true_eq] at h
  exact h) fun _ _ _ => .int _
def modI : D → D → Sto → Option D := intsIf (fun _ j => decide (0 < j)) fun i j => .int (i % j)
theorem v2_modI {c : Cf} : V2 c (rI (fun _ j => 0 < j) fun i j => .int (i % j)) modI := v2_intIf (fun i j h => of_decide_eq_true h) fun _ _ _ => .int _
def ltI : D → D → Sto → Option D := intsD fun i j => .bl (decide (i < j))
def leI : D → D → Sto → Option D := intsD fun i j => .bl (decide (i ≤ j))
def gtI : D → D → Sto → Option D := intsD fun i j => .bl (decide (j < i))
def geI : D → D → Sto → Option D := intsD fun i j => .bl (decide (j ≤ i))
theorem v2_ltI {c : Cf} : V2 c (rI0 fun i j => .bl (decide (i < j))) ltI := v2_int fun _ _ _ => .bl _
theorem v2_leI {c : Cf} : V2 c (rI0 fun i j => .bl (decide (i ≤ j))) leI := v2_int fun _ _ _ => .bl _
theorem v2_gtI {c : Cf} : V2 c (rI0 fun i j => .bl (decide (j < i))) gtI := v2_int fun _ _ _ => .bl _
theorem v2_geI {c : Cf} : V2 c (rI0 fun i j => .bl (decide (j ≤ i))) geI := v2_int fun _ _ _ => .bl _
/-- texts -/
def addS : D → D → Sto → Option D := fun a b _ => match a, b with
  | .str i, .str j => if i.length + j.length ≤ LIM then some (.str (i ++ j)) else none
  | _, _ => none
theorem v2_addS {c : Cf} : V2 c (fun x y H Q => ∃ i j, x = .str i ∧ y = .str j ∧ i.length + j.length ≤ sizeLine ∧ Q (.str (i ++ j)) H) addS := by
  intro Ψ H S x y a b d Q s ra rb e q
  unfold addS at e
  split at e
  · split at e
    · cases e
      cases ra.str; cases rb.str
      exact ⟨_, _, rfl, rfl, lim_of (by assumption), fin0 s q (.str _)⟩
    · cases e
  · cases e
/-- tuples -/
def addT : D → D → Sto → Option D := fun a b _ => match a, b with
  | .tup i, .tup j => if i.length + j.length ≤ LIM then some (.tup (i ++ j)) else none
  | _, _ => none
theorem Reps.nil_iff {c : Cf} {Ψ : Wd} {vs : List V} {ds : List D} (r : Reps c Ψ vs ds) : vs = [] ↔ ds = [] := by
  cases r <;> simp
theorem v2_addT {c : Cf} : V2 c (rCatA c.K) addT := by
  intro Ψ H S x y a b d Q s ra rb e q
  unfold addT at e
  split at e
  · split at e
    · cases e
      obtain ⟨a1, vs, rfl, h1, _, r1⟩ := ra.tup s
      obtain ⟨a2, ws, rfl, h2, _, r2⟩ := rb.tup s
      refine ⟨a1, a2, vs, ws, rfl, rfl, h1, h2, lim_of (by rw [r1.length, r2.length]; assumption), fun z => ?_, fun _ z => ?_, fun _ _ p hp => finT s q (by rw [List.length_append, r1.length, r2.length]; assumption) (r1.app r2) hp⟩
      · have z' := r1.nil_iff.mp z
        subst z'
        exact fin0 s q (rb.rep fun _ z => by cases z)
      · have z' := r2.nil_iff.mp z
        subst z'
        refine fin0 s q ?_
        rw [List.append_nil]
        exact ra.rep fun _ z => by cases z
    · cases e
  · cases e
theorem flat_len {α : Type} (xs : List α) : ∀ k : Nat, (List.replicate k xs).flatten.length = k * xs.length
  | 0 => by simp
  | k + 1 => by rw [List.replicate_succ, List.flatten_cons, List.length_append, flat_len xs k, Nat.succ_mul, Nat.add_comm]
def isNil {α : Type} : List α → Bool
  | [] => true
  | _ => false
def mulT : D → D → Sto → Option D := fun a b _ => match a, b with
  | .tup i, .int k => if !isNil i && decide (2 ≤ k) && decide (k ≤ 1000) && decide (i.length ≤ 100) then some (.tup (List.replicate k.toNat i).flatten) else none
  | _, _ => none
theorem v2_mulT {c : Cf} : V2 c (rRepT c.K) mulT := by
  intro Ψ H S x y a b d Q s ra rb e q
  unfold mulT at e
  split at e
  · split at e
    · cases e
      rename_i h
      simp only [Bool.and_eq_true, decide_eq_true_eq] at h
      obtain ⟨a1, vs, rfl, h1, _, r1⟩ := ra.tup s
      cases rb.int
      refine ⟨a1, _, vs, rfl, rfl, h1, fun z => ?_, h.1.1.2, h.1.2, by rw [r1.length]; omega, fun p hp => finT s q (by
        rw [flat_len, r1.length]
        exact Nat.le_trans (Nat.mul_le_mul (show _ ≤ 1000 by omega) h.2) (by decide)) (r1.flat _) hp⟩
      have z' := r1.nil_iff.mp z
      subst z'
      exact absurd h.1.1.1 (by simp [isNil])
    · cases e
  · cases e
/-! ### comparisons -/
def eqD : D → D → Sto → Option D := fun a b _ => match a.py, b.py with
  | some x, some y => if min x.depth y.depth ≤ 60 then some (.bl (PyData.eqv x y)) else none
  | _, _ => none
def neD : D → D → Sto → Option D := fun a b _ => match a.py, b.py with
  | some x, some y => if min x.depth y.depth ≤ 60 then some (.bl (!PyData.eqv x y)) else none
  | _, _ => none
def rEqP (K : PySem.W.Frag) : R2 := fun x y H Q => ∃ d e, Dp K H x d ∧ Dp K H y e ∧ d.plain = true ∧ e.plain = true ∧ min d.depth e.depth ≤ 60 ∧ Q (.bl (PyData.eqv d e)) H
def rNeP (K : PySem.W.Frag) : R2 := fun x y H Q => ∃ d e, Dp K H x d ∧ Dp K H y e ∧ d.plain = true ∧ e.plain = true ∧ min d.depth e.depth ≤ 60 ∧ Q (.bl (!PyData.eqv d e)) H
theorem op_eqP {X : Cx} (hu : X.A.units + 64 < cLine) : OpR X (compareOp .Eq) (rEqP X.K) := by
  intro pins s σ H x y v u Q I rx ry h
  obtain ⟨d, e, hd, he, sd, se, m, q⟩ := h
  obtain ⟨as, r1⟩ := Dp.reads I d x v hd rx
  obtain ⟨bs, r2⟩ := Dp.reads I e y u he ry
  exact SeqAt.eq_plain r1 r2 sd se (by omega) ⟨.bl _, H, I, rfl, q⟩
theorem op_neP {X : Cx} (hu : X.A.units + 64 < cLine) : OpR X (compareOp .NotEq) (rNeP X.K) := by
  intro pins s σ H x y v u Q I rx ry h
  obtain ⟨d, e, hd, he, sd, se, m, q⟩ := h
  obtain ⟨as, r1⟩ := Dp.reads I d x v hd rx
  obtain ⟨bs, r2⟩ := Dp.reads I e y u he ry
  exact SeqAt.ne_plain r1 r2 sd se (by omega) ⟨.bl _, H, I, rfl, q⟩
theorem v2_eqD {c : Cf} : V2 c (rEqP c.K) eqD := by
  intro Ψ H S x y a b d Q s ra rb e q
  unfold eqD at e
  split at e
  · split at e
    · cases e
      rename_i h1 h2 h3
      exact ⟨_, _, ra.dp s h1, rb.dp s h2, D.plain h1, D.plain h2, h3, fin0 s q (.bl _)⟩
    · cases e
  · cases e
theorem v2_neD {c : Cf} : V2 c (rNeP c.K) neD := by
  intro Ψ H S x y a b d Q s ra rb e q
  unfold neD at e
  split at e
  · split at e
    · cases e
      rename_i h1 h2 h3
      exact ⟨_, _, ra.dp s h1, rb.dp s h2, D.plain h1, D.plain h2, h3, fin0 s q (.bl _)⟩
    · cases e
  · cases e
/-- x in a list, a tuple of data -/
def anyE (xs : List PyData) (d : PyData) : Bool := xs.any fun y => PyData.eqv y d
def inD (neg : Bool) : D → D → Sto → Option D := fun a b _ => match a.py, b.py with
  | some x, some (.list ys) => if min (PyData.depthAll ys) x.depth ≤ 60 then some (.bl (if neg then !anyE ys x else anyE ys x)) else none
  | some x, some (.tuple ys) => if min (PyData.depthAll ys) x.depth ≤ 60 then some (.bl (if neg then !anyE ys x else anyE ys x)) else none
  | _, _ => none
def rInP (K : PySem.W.Frag) (neg : Bool) : R2 := fun x y H Q => ∃ d e ys, Dp K H x d ∧ Dp K H y e ∧ (e = .list ys ∨ e = .tuple ys) ∧ d.plain = true ∧ PyData.plainAll ys = true ∧ min (PyData.depthAll ys) d.depth ≤ 60 ∧ Q (.bl (if neg then !anyE ys d else anyE ys d)) H
theorem op_inP {X : Cx} (hu : X.A.units + 64 < cLine) : OpR X (compareOp .In) (rInP X.K false) := by
  intro pins s σ H x y v u Q I rx ry h
  obtain ⟨d, e, ys, hd, he, ek, sd, se, m, q⟩ := h
  obtain ⟨as, r1⟩ := Dp.reads I d x v hd rx
  obtain ⟨bs, r2⟩ := Dp.reads I e y u he ry
  rcases ek with rfl | rfl
  · exact SeqAt.in_list_data r2 r1 se sd (by omega) ⟨.bl _, H, I, rfl, q⟩
  · exact SeqAt.in_tuple_data r2 r1 se sd (by omega) ⟨.bl _, H, I, rfl, q⟩
theorem op_notInP {X : Cx} (hu : X.A.units + 64 < cLine) : OpR X (compareOp .NotIn) (rInP X.K true) := by
  intro pins s σ H x y v u Q I rx ry h
  obtain ⟨d, e, ys, hd, he, ek, sd, se, m, q⟩ := h
  obtain ⟨as, r1⟩ := Dp.reads I d x v hd rx
  obtain ⟨bs, r2⟩ := Dp.reads I e y u he ry
  rcases ek with rfl | rfl
  · exact SeqAt.notIn_list_data r2 r1 se sd (by omega) ⟨.bl _, H, I, rfl, q⟩
  · exact SeqAt.notIn_tuple_data r2 r1 se sd (by omega) ⟨.bl _, H, I, rfl, q⟩
theorem v2_inD {c : Cf} {neg : Bool} : V2 c (rInP c.K neg) (inD neg) := by
  intro Ψ H S x y a b d Q s ra rb e q
  unfold inD at e
  split at e
  · split at e
    · cases e
      rename_i h1 h2 h3
      have p := D.plain h2
      simp only [PyData.plain] at p
      exact ⟨_, _, _, ra.dp s h1, rb.dp s h2, .inl rfl, D.plain h1, p, h3, fin0 s q (.bl _)⟩
    · cases e
  · split at e
    · cases e
      rename_i h1 h2 h3
      have p := D.plain h2
      simp only [PyData.plain] at p
      exact ⟨_, _, _, ra.dp s h1, rb.dp s h2, .inr rfl, D.plain h1, p, h3, fin0 s q (.bl _)⟩
    · cases e
  · cases e
/-- is None -/
def isN (neg : Bool) : D → Sto → Option D := fun a _ => some (.bl (match a with
  | .non => !neg
  | _ => neg))
/-- a place of a list, a tuple -/
def ixD : D → D → Sto → Option D := fun a b S => match a, b with
  | .tup ds, .int i => atI ds i
  | .lst ds, .int i => atI ds i
  | .ref n, .int i => match S[n]? with
    | some (.lst ds) => atI ds i
    | _ => none
  | .scr ds, .int i => atI ds i
  | .str z, .int i => if z.length ≤ 100000 then (atI z.cps.toList i).map fun k => D.str ⟨#[k]⟩ else none
  | _, _ => none
theorem Reps.atI {c : Cf} {Ψ : Wd} {vs : List V} {ds : List D} {i : Int} {d : D} (r : Reps c Ψ vs ds) (h : L2.atI ds i = some d) : ∃ v, L2.atI vs i = some v ∧ Rep c Ψ v d := by
  unfold L2.atI at h ⊢
  rw [r.length]
  cases e : ixN ds.length i with
  | none => rw [e] at h; cases h
  | some j =>
    rw [e] at h
    exact r.get h
theorem v2_ixD {c : Cf} : V2 c (rIx c.K) ixD := by
  intro Ψ H S x y a b d Q s ra rb e q
  unfold ixD at e
  split at e
  · obtain ⟨a1, vs, rfl, h1, _, r1⟩ := ra.tup s
    cases rb.int
    obtain ⟨v, h2, r2⟩ := r1.atI e
    exact .inr (.inl ⟨a1, vs, _, v, rfl, rfl, h1, h2, fin0 s q r2⟩)
  · obtain ⟨a1, vs, rfl, h1, _, r1⟩ := ra.lst s
    cases rb.int
    obtain ⟨v, h2, r2⟩ := r1.atI e
    exact .inl ⟨a1, vs, _, v, rfl, rfl, SqL.of h1, h2, fin0 s q r2⟩
  · split at e
    · rename_i z
      obtain ⟨p, h0, rfl, vs, h1, _, _, r1⟩ := ra.ref s z
      cases rb.int
      obtain ⟨v, h2, r2⟩ := r1.atI e
      exact .inl ⟨p.1, vs, _, v, rfl, rfl, SqL.of h1, h2, fin0 s q r2⟩
    · cases e
  · obtain ⟨a1, vs, rfl, h1, _, r1⟩ := ra.scr s
    cases rb.int
    obtain ⟨v, h2, r2⟩ := r1.atI e
    exact .inl ⟨a1, vs, _, v, rfl, rfl, h1, h2, fin0 s q r2⟩
  · split at e
    · rename_i z i hz
      cases ra.str; cases rb.int
      cases hk : L2.atI z.cps.toList i with
      | none => rw [hk] at e; cases e
      | some k =>
        rw [hk] at e
        cases e
        exact .inr (.inr ⟨z, i, k, rfl, rfl, lim_of hz, hk, fin0 s q (.str _)⟩)
    · cases e
  · cases e
end Sm

/-! text: Sim4 -/
set_option Elab.async false
set_option linter.all false
set_option maxRecDepth 100000
set_option maxHeartbeats 1000000
namespace Sm
open PySem PySem.Spec PyProof.Rows L2

def asB (d : D) : M Bool := fun S => match d with
  | .bl b => .ok b S
  | _ => .stuck
def vl (ρ : Env) (i : Nat) : M D := fun S => match ρ[i]? with
  | some (.val d) => .ok d S
  | _ => .stuck
/-- .. or the frame's own list, to be read at once -/
def vb (ρ : Env) (i : Nat) : M D := fun S => match ρ[i]? with
  | some (.val d) => .ok d S
  | some (.own ds) => .ok (.lst ds) S
  | _ => .stuck
def iteM {α : Type} (b : Bool) (x y : M α) : M α := match b with
  | true => x
  | false => y
def andT (a b : M Bool) : M Bool := bd a fun x => iteM x b (rt false)
def orT (a b : M Bool) : M Bool := bd a fun x => iteM x (rt true) b
def notT (a : M Bool) : M Bool := bd a fun x => rt (!x)
def andV (a b : M D) : M D := bd a fun x => bd (asB x) fun t => iteM t b (rt (.bl false))
def notV (a : M D) : M D := bd a fun x => bd (asB x) fun t => rt (.bl (!t))
def boolT (a : M D) : M Bool := bd a asB

section
variable {c : Cf} {X : Cx} {W : L2.St → XK} {e a b : Expr} {es : List Expr} {pos p2 : Pos}
/-! ### from one judgement to another -/
theorem SE.sb {m : Env → M D} (h : SE c X W e m) : SB c X W e m := ⟨h.k, PE.imp h.p fun σ H Q ⟨Ψ, ρ, S, F, so, eo, q⟩ => ⟨Ψ, ρ, S, F, so, eo, q.mono fun d S' k Ψ' v H' x s r => k Ψ' v H' x s (.inl r)⟩⟩
theorem SN.se {m : Env → M (List D)} (h : SN c X W e m) : SE c X W e (fun ρ => bd (m ρ) fun ds => rt (.lst ds)) := by
  refine ⟨h.k, PE.imp h.p fun σ H Q ⟨Ψ, ρ, S, F, so, eo, q⟩ => ⟨Ψ, ρ, S, F, so, eo, q.bd.mono fun ds S' k Ψ' a vs H' x s h1 l r n f hn => ?_⟩⟩
  refine k (Ψ'.know a (.lst vs)) (.ref a) H' ⟨x.le.trans (Le.know n), x.dom, fun b o e => ?_, x.nmu, x.keep⟩ (s.know h1 n f) (.lst (show upd Ψ'.fz a _ a = _ from upd_same) l (r.mono (Le.know n)))
  by_cases z : b = a
  · subst z; exact .inr (.inl hn)
  · have e' : upd Ψ'.fz a (.lst vs) b = some o := e
    rw [upd_ne z] at e'
    exact x.nphi b o e'
theorem Reps.bs {Ψ : Wd} {σ : L2.St} {ρ : Env} : ∀ {vs : List V} {ds : List D}, Reps c Ψ vs ds → RepBs c Ψ σ ρ vs ds
  | _, _, .nil => .nil
  | _, _, .cons h t => .cons (.inl h) (Reps.bs t)
theorem SA.sab {m : Env → M (List D)} (h : SA c X W es m) : SAB c X W es m := ⟨h.k, PA.imp h.p fun σ H Q ⟨Ψ, ρ, S, F, so, eo, q⟩ => ⟨Ψ, ρ, S, F, so, eo, q.mono fun ds S' k Ψ' vs H' x s r => k Ψ' vs H' x s r.bs⟩⟩
theorem SB.imp {m m' : Env → M D} (h : SB c X W e m) (k : ∀ ρ, m ρ = m' ρ) : SB c X W e m' := by
  have e : m = m' := funext k
  rw [← e]; exact h
theorem SE.imp {m m' : Env → M D} (h : SE c X W e m) (k : ∀ ρ, m ρ = m' ρ) : SE c X W e m' := by
  have e : m = m' := funext k
  rw [← e]; exact h
/-- what one way does not carry another one may -/
theorem SE.or {m m' : Env → M D} (h : SE c X W e m) (h' : SE c X W e m') : SE c X W e (fun ρ S => match m ρ S with
    | .stuck => m' ρ S
    | r => r) := by
  refine ⟨h.k, ⟨fun pins s σ H Q I q => ?_⟩⟩
  obtain ⟨Ψ, ρ, S, F, so, eo, q⟩ := q
  dsimp only at q
  cases z : m ρ S with
  | stuck => rw [z] at q; exact h'.p.run pins s σ H Q I ⟨Ψ, ρ, S, F, so, eo, q⟩
  | ok d S' => rw [z] at q; exact h.p.run pins s σ H Q I ⟨Ψ, ρ, S, F, so, eo, by rw [z]; exact q⟩
  | err k fs S' => rw [z] at q; exact h.p.run pins s σ H Q I ⟨Ψ, ρ, S, F, so, eo, by rw [z]; exact q⟩

/-! ### names and constants -/
theorem se_var (k : X.K = c.K) {i : Nat} {x : Str} (hN : X.N[i]? = some x := by rfl) (hv : Vis X.env.scope x := by first | exact Or.inl rfl | exact Or.inr (Or.inl rfl) | exact Or.inr (Or.inr rfl)) (hd : (x == ("__debug__" : Str)) = false := by decide)
    (hcd : (x == ("__classdict__" : Str)) = false := by decide) : SE c X W (.Name x pos) (fun ρ => vl ρ i) := by
  refine ⟨k, PE.imp (pe_var hN hv hd hcd) fun σ H Q ⟨Ψ, ρ, S, F, so, eo, q⟩ => ?_⟩
  unfold vl at q
  dsimp only at q
  split at q
  · rename_i d e
    obtain ⟨_, v, h1, h2⟩ := eo.slot i _ e
    exact ⟨v, h1, q Ψ v H (Ext.refl _ _) so h2⟩
  · exact q.elim
theorem sb_var (k : X.K = c.K) {i : Nat} {x : Str} (hN : X.N[i]? = some x := by rfl) (hv : Vis X.env.scope x := by first | exact Or.inl rfl | exact Or.inr (Or.inl rfl) | exact Or.inr (Or.inr rfl)) (hd : (x == ("__debug__" : Str)) = false := by decide)
    (hcd : (x == ("__classdict__" : Str)) = false := by decide) : SB c X W (.Name x pos) (fun ρ => vb ρ i) := by
  refine ⟨k, PE.imp (pe_var hN hv hd hcd) fun σ H Q ⟨Ψ, ρ, S, F, so, eo, q⟩ => ?_⟩
  unfold vb at q
  dsimp only at q
  split at q
  · rename_i d e
    obtain ⟨_, v, h1, h2⟩ := eo.slot i _ e
    exact ⟨v, h1, q Ψ v H (Ext.refl _ _) so (.inl h2)⟩
  · rename_i ds e
    obtain ⟨a, vs, _, h1, h2, _, h3⟩ := eo.slot i _ e
    exact ⟨_, h1, q Ψ _ H (Ext.refl _ _) so (.inr ⟨i, ds, rfl, e, h1⟩)⟩
  · exact q.elim
theorem se_const {t : TE} {v : V} {d : D} (k : X.K = c.K) (h : PE X e (tC v)) (r : ∀ Ψ, Rep c Ψ v d) : SE c X W e (fun _ => rt d) :=
  ⟨k, PE.imp h fun σ H Q ⟨Ψ, ρ, S, F, so, eo, q⟩ => q Ψ v H (Ext.refl _ _) so (r Ψ)⟩
theorem se_int (k : X.K = c.K) {i : Int} {j} : SE c X W (.Constant (.int i) j pos) (fun _ => rt (.int i)) := se_const (t := tC .non) k pe_int fun _ => .int _
theorem se_bl (k : X.K = c.K) {i : Bool} {j} : SE c X W (.Constant (.bool i) j pos) (fun _ => rt (.bl i)) := se_const (t := tC .non) k pe_bl fun _ => .bl _
theorem se_str (k : X.K = c.K) {i : Str} {j} : SE c X W (.Constant (.str i) j pos) (fun _ => rt (.str i)) := se_const (t := tC .non) k pe_str fun _ => .str _
theorem se_non (k : X.K = c.K) {j} : SE c X W (.Constant .none j pos) (fun _ => rt .non) := se_const (t := tC .non) k pe_non fun _ => .non
/-- a module's constant -/
theorem se_glob (k : X.K = c.K) {x : Str} {v : V} {u : Value} {d : D} (hg : Gl X x) (hm : X.mg x = some u) (r : RelV v u) (rd : ∀ Ψ, Rep c Ψ v d) (hd : (x == ("__debug__" : Str)) = false := by decide) : SE c X W (.Name x pos) (fun _ => rt d) :=
  se_const (t := tC .non) k (pe_glob hg hm r hd) rd
theorem se_bltn (k : X.K = c.K) {x : Str} {v : V} {u : Value} {d : D} (hg : Gl X x) (hm : X.mg x = none) (hv : bootBuiltins x = some u) (r : RelV v u) (rd : ∀ Ψ, Rep c Ψ v d) (hn : x ≠ "__name__" := by decide) (hd : (x == ("__debug__" : Str)) = false := by decide) : SE c X W (.Name x pos) (fun _ => rt d) :=
  se_const (t := tC .non) k (pe_bltn hg hm hv r hn hd) rd

/-! ### argument lists, displays -/
theorem sa_nil (k : X.K = c.K) : SA c X W [] (fun _ => rt []) := ⟨k, PA.imp pa_nil fun σ H Q ⟨Ψ, ρ, S, F, so, eo, q⟩ => q Ψ [] H (Ext.refl _ _) so .nil⟩
def consM {α : Type} (m : M α) (ms : M (List α)) : M (List α) := bd m fun x => bd ms fun xs => rt (x :: xs)
theorem sa_cons {m : Env → M D} {ms : Env → M (List D)} (h : SE c X W e m) (t : SA c X W es ms) (hs : starEach (e :: es) X.env = (false, eval e X.env) :: starEach es X.env := by rfl) : SA c X W (e :: es) (fun ρ => consM (m ρ) (ms ρ)) := by
  refine ⟨h.k, PA.imp (pa_cons h.p t.p hs) fun σ H Q ⟨Ψ, ρ, S, F, so, eo, q⟩ => ⟨Ψ, ρ, S, F, so, eo, q.bd.mono fun d S1 q1 Ψ1 x H1 e1 so1 r1 => ?_⟩⟩
  refine ⟨Ψ1, ρ, S1, F, so1, eo.ext e1, (q1.ext e1).bd.mono fun ds S2 q2 Ψ2 xs H2 e2 so2 r2 => ?_⟩
  exact q2 Ψ2 _ H2 (e1.trans e2) so2 (.cons (r1.mono e2.le) r2)
theorem sab_nil (k : X.K = c.K) : SAB c X W [] (fun _ => rt []) := (sa_nil k).sab
theorem RepBs.mono {Ψ Ψ' : Wd} {σ : L2.St} {ρ : Env} (x : Le Ψ Ψ') {vs : List V} {ds : List D} (h : RepBs c Ψ σ ρ vs ds) : RepBs c Ψ' σ ρ vs ds := by
  induction h with
  | nil => exact .nil
  | cons h t ih => exact .cons (h.mono x) ih
theorem sab_cons {m : Env → M D} {ms : Env → M (List D)} (h : SB c X W e m) (t : SAB c X W es ms) (hs : starEach (e :: es) X.env = (false, eval e X.env) :: starEach es X.env := by rfl) : SAB c X W (e :: es) (fun ρ => consM (m ρ) (ms ρ)) := by
  refine ⟨h.k, PA.imp (pa_cons h.p t.p hs) fun σ H Q ⟨Ψ, ρ, S, F, so, eo, q⟩ => ⟨Ψ, ρ, S, F, so, eo, q.bd.mono fun d S1 q1 Ψ1 x H1 e1 so1 r1 => ?_⟩⟩
  refine ⟨Ψ1, ρ, S1, F, so1, eo.ext e1, (q1.ext e1).bd.mono fun ds S2 q2 Ψ2 xs H2 e2 so2 r2 => ?_⟩
  exact q2 Ψ2 _ H2 (e1.trans e2) so2 (.cons (r1.mono e2.le) r2)
def tupM (m : M (List D)) : M D := bd m fun ds => fun S => if ds.length ≤ LIM then .ok (.tup ds) S else .stuck
def lstM (m : M (List D)) : M (List D) := bd m fun ds => fun S => if ds.length ≤ LIM then .ok ds S else .stuck
theorem se_tup {m : Env → M (List D)} {x1} (h : SA c X W es m) : SE c X W (.Tuple es x1 pos) (fun ρ => tupM (m ρ)) := by
  refine ⟨h.k, PE.imp (pe_tup h.p) fun σ H Q ⟨Ψ, ρ, S, F, so, eo, q⟩ => ⟨Ψ, ρ, S, F, so, eo, q.bd.mono fun ds S1 q1 Ψ1 vs H1 e1 so1 r1 => ?_⟩⟩
  split at q1
  · exact ⟨lim_of (by rw [r1.length]; assumption), fun p hp => finT so1 (fun Ψ' v H' e2 so2 r2 => q1 Ψ' v H' (e1.trans e2) so2 r2) (by rw [r1.length]; assumption) r1 hp⟩
  · exact q1.elim
theorem sn_lst {m : Env → M (List D)} (h : SA c X W es m) : SN c X W (.List es pos) (fun ρ => lstM (m ρ)) := by
  refine ⟨h.k, PE.imp (pe_lst h.p) fun σ H Q ⟨Ψ, ρ, S, F, so, eo, q⟩ => ⟨Ψ, ρ, S, F, so, eo, q.bd.mono fun ds S1 q1 Ψ1 vs H1 e1 so1 r1 => ?_⟩⟩
  split at q1
  · exact ⟨lim_of (by rw [r1.length]; assumption), fun p hp => q1 Ψ1 p vs _ (e1.trans (Ext.lay hp)) (so1.lay hp) upd_same (by rw [r1.length]; assumption) r1 (so1.phiNone hp) (so1.footNone hp) (e1.dom p hp)⟩
  · exact q1.elim

/-! ### two operands -/
theorem two_r {r : R2} {f : D → D → Sto → Option D} (hr : V2 c r f) {ma mb : Env → M D} {σ : L2.St} {H : Hp} {Q : VK} (h : rE c W (fun ρ => bd (ma ρ) fun x => bd (mb ρ) fun y => op2 f x y) σ H Q) : tOp r (rB c W ma) (rB c W mb) σ H Q := by
  obtain ⟨Ψ, ρ, S, F, so, eo, h⟩ := h
  refine ⟨Ψ, ρ, S, F, so, eo, h.bd.mono fun a S1 h1 Ψ1 x H1 e1 so1 ra => ?_⟩
  refine ⟨Ψ1, ρ, S1, F, so1, eo.ext e1, (h1.ext e1).bd.mono fun b S2 h2 Ψ2 y H2 e2 so2 rb => ?_⟩
  unfold op2 at h2
  have ee := eo.ext (e1.trans e2)
  split at h2
  · rename_i d e
    exact hr Ψ2 H2 S2 x y a b d Q so2 ((ra.mono e2.le).h ee) (rb.h ee) e fun Ψ' v H' e3 so3 r3 => h2 Ψ' v H' ((e1.trans e2).trans e3) so3 r3
  · exact h2.elim
theorem se_op {op : Operator} {r : R2} {f : D → D → Sto → Option D} {ma mb : Env → M D} (ho : OpR X (binaryOp op) r) (hr : V2 c r f) (ha : SB c X W a ma) (hb : SB c X W b mb) :
    SE c X W (.BinOp a op b pos) (fun ρ => bd (ma ρ) fun x => bd (mb ρ) fun y => op2 f x y) := ⟨ha.k, PE.imp (pe_op ho ha.p hb.p) fun σ H Q h => two_r hr h⟩
theorem se_cmp {op : CmpOp} {r : R2} {f : D → D → Sto → Option D} {ma mb : Env → M D} (ho : OpR X (compareOp op) r) (hr : V2 c r f) (ha : SB c X W a ma) (hb : SB c X W b mb) (hm : behindInMarks op b = false := by first | exact nomark _ (by decide) (by decide) | rfl) :
    SE c X W (.Compare a [op] [b] pos) (fun ρ => bd (ma ρ) fun x => bd (mb ρ) fun y => op2 f x y) := ⟨ha.k, PE.imp (pe_cmpR ho ha.p hb.p hm) fun σ H Q h => two_r hr h⟩
theorem st_cmp {op : CmpOp} {r : R2} {f : D → D → Sto → Option D} {ma mb : Env → M D} (ho : OpR X (compareOp op) r) (hr : V2 c r f) (ha : SB c X W a ma) (hb : SB c X W b mb) (hm : behindInMarks op b = false := by first | exact nomark _ (by decide) (by decide) | rfl) :
    ST c X W (.Compare a [op] [b] pos) (fun ρ => boolT (bd (ma ρ) fun x => bd (mb ρ) fun y => op2 f x y)) := by
  refine ⟨ha.k, PT.imp (pt_cmpR ho ha.p hb.p hm) fun σ H Q ⟨Ψ, ρ, S, F, so, eo, q⟩ => ?_⟩
  refine two_r hr ⟨Ψ, ρ, S, F, so, eo, q.bd.mono fun d S1 q1 Ψ1 x H1 e1 so1 r1 => ?_⟩
  unfold asB at q1
  split at q1
  · cases r1
    exact ⟨_, rfl, q1 Ψ1 H1 e1 so1⟩
  · exact q1.elim
/-- an expression that gives True or False, as a test -/
theorem st_val {m : Env → M D} (h : SE c X W e m) (he : ∀ whole, isTrue e X.env whole = (do let v ← whole; standAt e.pos; holding [v] (truthy v)) := by intro _; rfl) : ST c X W e (fun ρ => boolT (m ρ)) := by
  refine ⟨h.k, PT.imp (pt_val h.p he) fun σ H Q ⟨Ψ, ρ, S, F, so, eo, q⟩ => ⟨Ψ, ρ, S, F, so, eo, q.bd.mono fun d S1 q1 Ψ1 x H1 e1 so1 r1 => ?_⟩⟩
  unfold asB at q1
  split at q1
  · cases r1
    exact ⟨_, rfl, q1 Ψ1 H1 e1 so1⟩
  · exact q1.elim
/-- a < b < c -/
def chainM (f g : D → D → Sto → Option D) (x y z : M D) : M D := bd x fun a => bd y fun b => bd (op2 f a b) fun r => bd (asB r) fun t => iteM t (bd z fun d => op2 g b d) (rt (.bl false))
end

/-! ### and, or, not -/
structure SW (c : Cf) (X : Cx) (W : L2.St → XK) (e : Expr) (m : Env → M Bool) : Prop where
  k : X.K = c.K
  p : PW X e (rT c W m)
section
variable {c : Cf} {X : Cx} {W : L2.St → XK} {e a b : Expr} {rest : List Expr} {pos p2 : Pos} {ma mb mc : Env → M Bool} {va vb vc : Env → M D}
theorem SW.st (h : SW c X W e ma) : ST c X W e ma := ⟨h.k, PW.pt h.p⟩
theorem sw_and1 (h : ST c X W a ma) : SW c X W (.BoolOp .And [a] pos) ma := ⟨h.k, pw_and1 h.p⟩
theorem sw_or1 (h : ST c X W a ma) : SW c X W (.BoolOp .Or [a] pos) ma := ⟨h.k, pw_or1 h.p⟩
theorem sw_and (h : ST c X W a ma) (t : SW c X W (.BoolOp .And (b :: rest) pos) mb) : SW c X W (.BoolOp .And (a :: b :: rest) pos) (fun ρ => andT (ma ρ) (mb ρ)) := by
  refine ⟨h.k, PW.imp (pw_and h.p t.p) fun σ H Q ⟨Ψ, ρ, S, F, so, eo, q⟩ => ⟨Ψ, ρ, S, F, so, eo, q.bd.mono fun t S1 q1 Ψ1 H1 e1 so1 => ?_⟩⟩
  cases t with
  | true =>
    rw [if_pos rfl]
    exact ⟨Ψ1, ρ, S1, F, so1, eo.ext e1, (q1.ext e1).mono fun t2 S2 q2 Ψ2 H2 e2 so2 => q2 Ψ2 H2 (e1.trans e2) so2⟩
  | false =>
    rw [if_neg Bool.false_ne_true]
    exact q1 Ψ1 H1 e1 so1
theorem sw_or (h : ST c X W a ma) (t : SW c X W (.BoolOp .Or (b :: rest) pos) mb) : SW c X W (.BoolOp .Or (a :: b :: rest) pos) (fun ρ => orT (ma ρ) (mb ρ)) := by
  refine ⟨h.k, PW.imp (pw_or h.p t.p) fun σ H Q ⟨Ψ, ρ, S, F, so, eo, q⟩ => ⟨Ψ, ρ, S, F, so, eo, q.bd.mono fun t S1 q1 Ψ1 H1 e1 so1 => ?_⟩⟩
  cases t with
  | true =>
    rw [if_pos rfl]
    exact q1 Ψ1 H1 e1 so1
  | false =>
    rw [if_neg Bool.false_ne_true]
    exact ⟨Ψ1, ρ, S1, F, so1, eo.ext e1, (q1.ext e1).mono fun t2 S2 q2 Ψ2 H2 e2 so2 => q2 Ψ2 H2 (e1.trans e2) so2⟩
theorem st_not (h : ST c X W a ma) : ST c X W (.UnaryOp .Not a pos) (fun ρ => notT (ma ρ)) :=
  ⟨h.k, PT.imp (pt_not h.p) fun σ H Q ⟨Ψ, ρ, S, F, so, eo, q⟩ => ⟨Ψ, ρ, S, F, so, eo, q.bd.mono fun t S1 q1 Ψ1 H1 e1 so1 => q1 Ψ1 H1 e1 so1⟩⟩
theorem se_and1 {op} (h : SE c X W a va) : SE c X W (.BoolOp op [a] pos) va := ⟨h.k, pe_one h.p⟩
theorem se_and (h : SE c X W a va) (t : SE c X W (.BoolOp .And (b :: rest) pos) vb) : SE c X W (.BoolOp .And (a :: b :: rest) pos) (fun ρ => andV (va ρ) (vb ρ)) := by
  refine ⟨h.k, PE.imp (pe_and h.p t.p) fun σ H Q ⟨Ψ, ρ, S, F, so, eo, q⟩ => ⟨Ψ, ρ, S, F, so, eo, q.bd.mono fun d S1 q1 Ψ1 x H1 e1 so1 r1 => ?_⟩⟩
  have q2 := q1.bd
  unfold asB at q2
  split at q2
  · rename_i t
    cases r1
    refine ⟨_, rfl, ?_⟩
    cases t with
    | true =>
      rw [if_pos rfl]
      have q5 : Post c (W σ) Ψ H (vb ρ S1) _ := q2
      exact ⟨Ψ1, ρ, S1, F, so1, eo.ext e1, (Post.ext e1 q5).mono fun t2 S2 q3 Ψ2 v2 H2 e2 so2 r2 => q3 Ψ2 v2 H2 (e1.trans e2) so2 r2⟩
    | false =>
      rw [if_neg Bool.false_ne_true]
      exact q2 Ψ1 _ H1 e1 so1 (.bl _)
  · exact q2.elim
theorem se_not (h : SE c X W a va) : SE c X W (.UnaryOp .Not a pos) (fun ρ => notV (va ρ)) := by
  refine ⟨h.k, PE.imp (pe_not h.p) fun σ H Q ⟨Ψ, ρ, S, F, so, eo, q⟩ => ⟨Ψ, ρ, S, F, so, eo, q.bd.mono fun d S1 q1 Ψ1 x H1 e1 so1 r1 => ?_⟩⟩
  have q2 := q1.bd
  unfold asB at q2
  split at q2
  · cases r1
    exact ⟨_, rfl, q2 Ψ1 _ H1 e1 so1 (.bl _)⟩
  · exact q2.elim
theorem se_if {cd : Expr} {mt : Env → M Bool} (h : ST c X W cd mt) (ha : SE c X W a va) (hb : SE c X W b vb) : SE c X W (.IfExp cd a b pos) (fun ρ => bd (mt ρ) fun t => iteM t (va ρ) (vb ρ)) := by
  refine ⟨h.k, PE.imp (pe_ifExp h.p ha.p hb.p) fun σ H Q ⟨Ψ, ρ, S, F, so, eo, q⟩ => ⟨Ψ, ρ, S, F, so, eo, q.bd.mono fun t S1 q1 Ψ1 H1 e1 so1 => ?_⟩⟩
  cases t with
  | true =>
    rw [if_pos rfl]
    exact ⟨Ψ1, ρ, S1, F, so1, eo.ext e1, (Post.ext e1 q1).mono fun t2 S2 q3 Ψ2 v2 H2 e2 so2 r2 => q3 Ψ2 v2 H2 (e1.trans e2) so2 r2⟩
  | false =>
    rw [if_neg Bool.false_ne_true]
    exact ⟨Ψ1, ρ, S1, F, so1, eo.ext e1, (Post.ext e1 q1).mono fun t2 S2 q3 Ψ2 v2 H2 e2 so2 r2 => q3 Ψ2 v2 H2 (e1.trans e2) so2 r2⟩
theorem se_notN {m : Env → M D} {j pos'} (h : SB c X W a m) : SE c X W (.Compare a [.IsNot] [.Constant .none j pos'] pos) (fun ρ => bd (m ρ) fun x => op1 (isN true) x) := by
  refine ⟨h.k, PE.imp (pe_cmp (pc_notN h.p)) fun σ H Q ⟨Ψ, ρ, S, F, so, eo, q⟩ => ⟨Ψ, ρ, S, F, so, eo, q.bd.mono fun d S1 q1 Ψ1 x H1 e1 so1 r1 => ?_⟩⟩
  show Q (.bl (!decide (x = .non))) H1
  rw [(r1.h (eo.ext e1)).isNon]
  refine q1 Ψ1 _ H1 e1 so1 ?_
  cases d <;> exact .bl _
theorem st_isN {m : Env → M D} {j pos'} (h : SB c X W a m) : ST c X W (.Compare a [.Is] [.Constant .none j pos'] pos) (fun ρ => boolT (bd (m ρ) fun x => op1 (isN false) x)) := by
  refine ⟨h.k, PT.imp (pt_cmp (pc_isN h.p)) fun σ H Q ⟨Ψ, ρ, S, F, so, eo, q⟩ => ⟨Ψ, ρ, S, F, so, eo, q.bd.bd.mono fun d S1 q1 Ψ1 x H1 e1 so1 r1 => ?_⟩⟩
  refine ⟨_, rfl, ?_⟩
  rw [(r1.h (eo.ext e1)).isNon]
  have q2 := q1 Ψ1 H1 e1 so1
  cases d <;> exact q2
theorem st_notN {m : Env → M D} {j pos'} (h : SB c X W a m) : ST c X W (.Compare a [.IsNot] [.Constant .none j pos'] pos) (fun ρ => boolT (bd (m ρ) fun x => op1 (isN true) x)) := by
  refine ⟨h.k, PT.imp (pt_cmp (pc_notN h.p)) fun σ H Q ⟨Ψ, ρ, S, F, so, eo, q⟩ => ⟨Ψ, ρ, S, F, so, eo, q.bd.bd.mono fun d S1 q1 Ψ1 x H1 e1 so1 r1 => ?_⟩⟩
  refine ⟨_, rfl, ?_⟩
  rw [(r1.h (eo.ext e1)).isNon]
  have q2 := q1 Ψ1 H1 e1 so1
  cases d <;> exact q2
/-- a < b < d -/
theorem one_r {r : R2} {f : D → D → Sto → Option D} (hr : V2 c r f) {Ψ : Wd} {H : Hp} {S : Sto} {x y : V} {d1 d2 : D} {Wσ : XK} {R : D → Sto → Prop} {Q : VK} (so : StoOk c Ψ H S) (ra : RepH c Ψ H x d1) (rb : RepH c Ψ H y d2)
    (h : Post c Wσ Ψ H (op2 f d1 d2 S) R) (k : ∀ d Ψ' v H', R d S → Ext Ψ H Ψ' H' → StoOk c Ψ' H' S → Rep c Ψ' v d → Q v H') : r x y H Q := by
  unfold op2 at h
  split at h
  · exact hr Ψ H S x y d1 d2 _ Q so ra rb (by assumption) fun Ψ' v H' e s r => k _ Ψ' v H' h e s r
  · exact h.elim
theorem chain_r {r r' : R2} {f g : D → D → Sto → Option D} (hr : V2 c r f) (hr' : V2 c r' g) {σ : L2.St} {H : Hp} {Q : VK} (h : rE c W (fun ρ => chainM f g (va ρ) (vb ρ) (vc ρ)) σ H Q) : tChain r r' (rB c W va) (rB c W vb) (rB c W vc) σ H Q := by
  obtain ⟨Ψ, ρ, S, F, so, eo, h⟩ := h
  refine ⟨Ψ, ρ, S, F, so, eo, h.bd.mono fun a S1 h1 Ψ1 x H1 e1 so1 ra => ?_⟩
  refine ⟨Ψ1, ρ, S1, F, so1, eo.ext e1, (h1.ext e1).bd.mono fun b S2 h2 Ψ2 y H2 e2 so2 rb => ?_⟩
  have ee := eo.ext (e1.trans e2)
  refine one_r hr so2 ((ra.mono e2.le).h ee) (rb.h ee) ((Post.ext e2 h2).bd) fun d Ψ3 v H3 q e3 so3 r3 => ?_
  have q2 := q.bd
  unfold asB at q2
  split at q2
  · rename_i t
    cases r3
    refine ⟨_, rfl, ?_⟩
    have e13 := (e1.trans e2).trans e3
    cases t with
    | true =>
      rw [if_pos rfl]
      have q6 : Post c (W σ) Ψ2 H2 (bd (vc ρ) (fun d => op2 g b d) S2) _ := q2
      refine ⟨Ψ3, ρ, S2, F, so3, eo.ext e13, ((Post.ext e3 q6).bd).mono fun d4 S4 q4 Ψ4 z H4 e4 so4 r4 => ?_⟩
      have e14 := e13.trans e4
      exact one_r hr' so4 ((rb.mono (e3.le.trans e4.le)).h (eo.ext e14)) (r4.h (eo.ext e14)) (Post.ext e4 q4) fun d5 Ψ5 v5 H5 q5 e5 so5 r5 => q5 Ψ5 v5 H5 (e14.trans e5) so5 r5
    | false =>
      rw [if_neg Bool.false_ne_true]
      exact q2 Ψ3 _ H3 e13 so3 (.bl _)
  · exact q2.elim
theorem se_chain {op op' : CmpOp} {r r' : R2} {f g : D → D → Sto → Option D} {d : Expr} (ho : OpR X (compareOp op) r) (ho' : OpR X (compareOp op') r') (hr : V2 c r f) (hr' : V2 c r' g) (ha : SB c X W a va) (hb : SB c X W b vb) (hd : SB c X W d vc)
    (h1 : lastMarks [op, op'] [b, d] = false := by with_unfolding_all rfl) :
    SE c X W (.Compare a [op, op'] [b, d] pos) (fun ρ => chainM f g (va ρ) (vb ρ) (vc ρ)) := ⟨ha.k, PE.imp (pe_chain ho ho' ha.p hb.p hd.p h1) fun σ H Q h => chain_r hr hr' h⟩
end
end Sm

/-! text: Sim5 -/
set_option Elab.async false
set_option linter.all false
set_option maxRecDepth 100000
set_option maxHeartbeats 1000000
namespace Sm
open PySem PySem.Spec PyProof.Rows L2

/-! ### places, slices -/
section
variable {c : Cf} {X : Cx} {W : L2.St → XK} {e a b : Expr} {es : List Expr} {pos p2 : Pos}
theorem se_ix {ma mb : Env → M D} (ha : SB c X W a ma) (hb : SB c X W b mb) (hs : PlainIx b := by exact fun _ _ => rfl) : SE c X W (.Subscript a b pos) (fun ρ => bd (ma ρ) fun x => bd (mb ρ) fun y => op2 ixD x y) :=
  ⟨ha.k, PE.imp (pe_ix ix_seq ha.p hb.p hs) fun σ H Q h => two_r (ha.k ▸ v2_ixD) h⟩
/-- a part of a slice -/
def rO (c : Cf) (W : L2.St → XK) (m : Env → M (Option Int)) : TO := fun σ H Q => ∃ Ψ ρ S F, StoOk c Ψ H S ∧ EnvOk c Ψ σ ρ H F ∧
  Post c (W σ) Ψ H (m ρ S) fun o S' => ∀ Ψ' H', Ext Ψ H Ψ' H' → StoOk c Ψ' H' S' → Q o H'
structure SO (c : Cf) (X : Cx) (W : L2.St → XK) (e : Option Expr) (m : Env → M (Option Int)) : Prop where
  k : X.K = c.K
  p : PO X e (rO c W m)
theorem PO.imp {X : Cx} {e : Option Expr} {t u : TO} (h : PO X e t) (k : ∀ σ H Q, u σ H Q → t σ H Q) : PO X e u := by
  obtain ⟨r⟩ := h
  exact ⟨fun pins s σ H Q I q => r pins s σ H Q I (k _ _ _ q)⟩
theorem so_none (k : X.K = c.K) : SO c X W none (fun _ => rt none) := ⟨k, PO.imp po_none fun σ H Q ⟨Ψ, ρ, S, F, so, eo, q⟩ => q Ψ H (Ext.refl _ _) so⟩
def asI (d : D) : M (Option Int) := fun S => match d with
  | .int i => .ok (some i) S
  | _ => .stuck
theorem so_some {m : Env → M D} (h : SB c X W e m) : SO c X W (some e) (fun ρ => bd (m ρ) asI) := by
  refine ⟨h.k, PO.imp (po_some h.p) fun σ H Q ⟨Ψ, ρ, S, F, so, eo, q⟩ => ⟨Ψ, ρ, S, F, so, eo, q.bd.mono fun d S1 q1 Ψ1 x H1 e1 so1 r1 => ?_⟩⟩
  unfold asI at q1
  split at q1
  · cases (r1.h (eo.ext e1)).int
    exact ⟨_, rfl, q1 Ψ1 H1 e1 so1⟩
  · exact q1.elim
def cutL {α : Type} (xs : List α) (lo hi : Option Int) : List α := (xs.drop (HT.sIx xs.length 0 lo)).take (HT.sIx xs.length xs.length hi - HT.sIx xs.length 0 lo)
theorem Reps.cut {Ψ : Wd} {vs : List V} {ds : List D} (r : Reps c Ψ vs ds) (lo hi : Option Int) : Reps c Ψ (cutV vs lo hi) (cutL ds lo hi) := by
  unfold cutV cutL
  rw [r.length]
  exact (r.drop _).take _
/-- t[lo:hi] of a tuple -/
def sliceT (d : D) (lo hi : Option Int) : M D := fun S => match d with
  | .tup ds => .ok (.tup (cutL ds lo hi)) S
  | _ => .stuck
/-- .. of a list -/
def sliceL (d : D) (lo hi : Option Int) : M (List D) := fun S => match d with
  | .lst ds => .ok (cutL ds lo hi) S
  | .scr ds => .ok (cutL ds lo hi) S
  | _ => .stuck
theorem whole_cut {α : Type} {xs : List α} {lo hi : Option Int} (h : HT.sIx xs.length 0 lo = 0 ∧ HT.sIx xs.length xs.length hi = xs.length) : cutL xs lo hi = xs := by
  unfold cutL
  rw [h.1, h.2]
  simp
theorem se_sliceT {ma : Env → M D} {ml mh : Env → M (Option Int)} {lo hi : Option Expr} (ha : SB c X W a ma) (hl : SO c X W lo ml) (hh : SO c X W hi mh) :
    SE c X W (.Subscript a (.Slice lo hi none p2) pos) (fun ρ => bd (ma ρ) fun x => bd (ml ρ) fun i => bd (mh ρ) fun j => sliceT x i j) := by
  refine ⟨ha.k, PE.imp (pe_slice sl_tupA ha.p hl.p hh.p) fun σ H Q ⟨Ψ, ρ, S, F, so, eo, q⟩ => ⟨Ψ, ρ, S, F, so, eo, q.bd.mono fun d S1 q1 Ψ1 x H1 e1 so1 r1 => ?_⟩⟩
  refine ⟨Ψ1, ρ, S1, F, so1, eo.ext e1, (q1.ext e1).bd.mono fun i S2 q2 Ψ2 H2 e2 so2 => ?_⟩
  refine ⟨Ψ2, ρ, S2, F, so2, eo.ext (e1.trans e2), (Post.ext e2 q2).bd.mono fun j S3 q3 Ψ3 H3 e3 so3 => ?_⟩
  have e13 := (e1.trans e2).trans e3
  have rh := (r1.mono (e2.le.trans e3.le)).h (eo.ext e13)
  unfold sliceT at q3
  split at q3
  · obtain ⟨a1, vs, rfl, h1, l, r⟩ := rh.tup so3
    refine ⟨a1, vs, rfl, by rw [ha.k]; exact h1, fun z => ?_, fun z p hp => ?_⟩
    · rw [r.length] at z
      refine q3 Ψ3 _ H3 e13 so3 ?_
      rw [whole_cut z]
      exact rh.rep fun _ z => by cases z
    · exact finT so3 (fun Ψ' v H' e4 so4 r4 => q3 Ψ' v H' (e13.trans e4) so4 r4) (Nat.le_trans (cutV_length _ _ _) l) (r.cut _ _) hp
  · exact q3.elim
theorem sn_slice {ma : Env → M D} {ml mh : Env → M (Option Int)} {lo hi : Option Expr} (ha : SB c X W a ma) (hl : SO c X W lo ml) (hh : SO c X W hi mh) :
    SN c X W (.Subscript a (.Slice lo hi none p2) pos) (fun ρ => bd (ma ρ) fun x => bd (ml ρ) fun i => bd (mh ρ) fun j => sliceL x i j) := by
  refine ⟨ha.k, PE.imp (pe_slice sl_list ha.p hl.p hh.p) fun σ H Q ⟨Ψ, ρ, S, F, so, eo, q⟩ => ⟨Ψ, ρ, S, F, so, eo, q.bd.mono fun d S1 q1 Ψ1 x H1 e1 so1 r1 => ?_⟩⟩
  refine ⟨Ψ1, ρ, S1, F, so1, eo.ext e1, (q1.ext e1).bd.mono fun i S2 q2 Ψ2 H2 e2 so2 => ?_⟩
  refine ⟨Ψ2, ρ, S2, F, so2, eo.ext (e1.trans e2), (Post.ext e2 q2).bd.mono fun j S3 q3 Ψ3 H3 e3 so3 => ?_⟩
  have e13 := (e1.trans e2).trans e3
  have rh := (r1.mono (e2.le.trans e3.le)).h (eo.ext e13)
  unfold sliceL at q3
  split at q3
  · obtain ⟨a1, vs, rfl, h1, l, r⟩ := rh.lst so3
    exact ⟨a1, vs, rfl, SqL.of h1, fun p hp => q3 Ψ3 p _ _ (e13.trans (Ext.lay hp)) (so3.lay hp) upd_same (Nat.le_trans (cutV_length _ _ _) l) (r.cut _ _) (so3.phiNone hp) (so3.footNone hp) (e13.dom p hp)⟩
  · obtain ⟨a1, vs, rfl, h1, l, r⟩ := rh.scr so3
    exact ⟨a1, vs, rfl, by rw [ha.k]; exact h1, fun p hp => q3 Ψ3 p _ _ (e13.trans (Ext.lay hp)) (so3.lay hp) upd_same (Nat.le_trans (cutV_length _ _ _) l) (r.cut _ _) (so3.phiNone hp) (so3.footNone hp) (e13.dom p hp)⟩
  · exact q3.elim

/-! ### calls of built-ins -/
def RepHs (c : Cf) (Ψ : Wd) (H : Hp) (vs : List V) (ds : List D) : Prop := vs.length = ds.length ∧ ∀ (i : Nat) v d, vs[i]? = some v → ds[i]? = some d → RepH c Ψ H v d
theorem RepBs.hs {Ψ : Wd} {σ : L2.St} {ρ : Env} {H : Hp} {F : Nat → List Addr} {vs : List V} {ds : List D} (e : EnvOk c Ψ σ ρ H F) (r : RepBs c Ψ σ ρ vs ds) : RepHs c Ψ H vs ds := by
  induction r with
  | nil => exact ⟨rfl, fun i v d h => by simp at h⟩
  | cons h t ih =>
    refine ⟨by rw [List.length_cons, List.length_cons, ih.1], fun i v d h1 h2 => ?_⟩
    cases i with
    | zero => simp at h1 h2; subst h1 h2; exact h.h e
    | succ i => exact ih.2 i v d (by simpa using h1) (by simpa using h2)
theorem RepHs.one {Ψ : Wd} {H : Hp} {vs : List V} {d : D} (r : RepHs c Ψ H vs [d]) : ∃ v, vs = [v] ∧ RepH c Ψ H v d := by
  obtain ⟨l, h⟩ := r
  match vs, l with
  | [v], _ => exact ⟨v, rfl, h 0 v d rfl rfl⟩
theorem RepHs.two {Ψ : Wd} {H : Hp} {vs : List V} {d d' : D} (r : RepHs c Ψ H vs [d, d']) : ∃ v v', vs = [v, v'] ∧ RepH c Ψ H v d ∧ RepH c Ψ H v' d' := by
  obtain ⟨l, h⟩ := r
  match vs, l with
  | [v, v'], _ => exact ⟨v, v', rfl, h 0 v d rfl rfl, h 1 v' d' rfl rfl⟩
def VC (c : Cf) (r : List V → Hp → VK → Prop) (f : List D → Sto → Option D) : Prop := ∀ Ψ H S xs ds d Q, StoOk c Ψ H S → RepHs c Ψ H xs ds → f ds S = some d →
  (∀ Ψ' v H', Ext Ψ H Ψ' H' → StoOk c Ψ' H' S → Rep c Ψ' v d → Q v H') → r xs H Q
def VCN (c : Cf) (r : List V → Hp → VK → Prop) (f : List D → Sto → Option (List D)) : Prop := ∀ Ψ H S xs ds d Q, StoOk c Ψ H S → RepHs c Ψ H xs ds → f ds S = some d →
  (∀ p vs, H p = none → vs.length ≤ LIM → Reps c Ψ vs d → Q (.ref p) (upd H p (.lst vs))) → r xs H Q
def opC (f : List D → Sto → Option D) (ds : List D) : M D := fun S => match f ds S with
  | some d => .ok d S
  | none => .stuck
def opCN (f : List D → Sto → Option (List D)) (ds : List D) : M (List D) := fun S => match f ds S with
  | some d => .ok d S
  | none => .stuck
theorem VC.or {r r' : List V → Hp → VK → Prop} {f f' : List D → Sto → Option D} (h : VC c r f) (h' : VC c r' f') : VC c (fun x H Q => r x H Q ∨ r' x H Q) (fun a S => match f a S with | some d => some d | none => f' a S) := by
  intro Ψ H S x a d Q s ra e q
  dsimp only at e
  cases z : f a S with
  | some d' => rw [z] at e; cases e; exact .inl (h Ψ H S x a _ Q s ra z q)
  | none => rw [z] at e; exact .inr (h' Ψ H S x a _ Q s ra e q)
theorem call_r {r : List V → Hp → VK → Prop} {f : List D → Sto → Option D} (hr : VC c r f) {m : Env → M (List D)} {σ : L2.St} {H : Hp} {Q : VK} (h : rE c W (fun ρ => bd (m ρ) fun x => opC f x) σ H Q) : tCB r (rAB c W m) σ H Q := by
  obtain ⟨Ψ, ρ, S, F, so, eo, h⟩ := h
  refine ⟨Ψ, ρ, S, F, so, eo, h.bd.mono fun ds S1 h1 Ψ1 vs H1 e1 so1 ra => ?_⟩
  unfold opC at h1
  split at h1
  · exact hr Ψ1 H1 S1 vs ds _ Q so1 (ra.hs (eo.ext e1)) (by assumption) fun Ψ' v H' e3 so3 r3 => h1 Ψ' v H' (e1.trans e3) so3 r3
  · exact h1.elim
theorem call_n {r : List V → Hp → VK → Prop} {f : List D → Sto → Option (List D)} (hr : VCN c r f) {m : Env → M (List D)} {σ : L2.St} {H : Hp} {Q : VK} (h : rN c W (fun ρ => bd (m ρ) fun x => opCN f x) σ H Q) : tCB r (rAB c W m) σ H Q := by
  obtain ⟨Ψ, ρ, S, F, so, eo, h⟩ := h
  refine ⟨Ψ, ρ, S, F, so, eo, h.bd.mono fun ds S1 h1 Ψ1 vs H1 e1 so1 ra => ?_⟩
  unfold opCN at h1
  split at h1
  · exact hr Ψ1 H1 S1 vs ds _ Q so1 (ra.hs (eo.ext e1)) (by assumption) fun p ws hp l3 r3 => h1 Ψ1 p ws _ (e1.trans (Ext.lay hp)) (so1.lay hp) upd_same l3 r3 (so1.phiNone hp) (so1.footNone hp) (e1.dom p hp)
  · exact h1.elim
variable {x : Str} {id T : String} {r : List V → Hp → VK → Prop} {p : Pos} {m : Env → M (List D)}
theorem se_callB {f : List D → Sto → Option D} (hc : CallR X (.builtin id) r) (hr : VC c r f) (ha : SAB c X W (e :: es) m) (hm : X.mg x = none) (hv : bootBuiltins x = some (.builtin id)) (hg : Gl X x := by rfl) (hn : x ≠ "__name__" := by decide) (hdb : (x == ("__debug__" : Str)) = false := by decide)
    (he : starEach (e :: es) X.env = (false, eval e X.env) :: starEach es X.env := by rfl) (hpl : (backTo pos (starEach es X.env)).any (·.1) = false := by rfl) :
    SE c X W (.Call (.Name x p) (e :: es) [] pos) (fun ρ => bd (m ρ) fun ds => opC f ds) := ⟨ha.k, PE.imp (pe_callB hc hg hm hv ha.p hn hdb he hpl) fun σ H Q h => call_r hr h⟩
theorem se_callTy {f : List D → Sto → Option D} (hc : CallR X (.type T) r) (hr : VC c r f) (ha : SAB c X W (e :: es) m) (hm : X.mg x = none) (hv : bootBuiltins x = some (.type T)) (hg : Gl X x := by rfl) (hn : x ≠ "__name__" := by decide) (hdb : (x == ("__debug__" : Str)) = false := by decide)
    (he : starEach (e :: es) X.env = (false, eval e X.env) :: starEach es X.env := by rfl) (hpl : (backTo pos (starEach es X.env)).any (·.1) = false := by rfl) :
    SE c X W (.Call (.Name x p) (e :: es) [] pos) (fun ρ => bd (m ρ) fun ds => opC f ds) := ⟨ha.k, PE.imp (pe_callTy hc hg hm hv ha.p hn hdb he hpl) fun σ H Q h => call_r hr h⟩
theorem sn_callTy {f : List D → Sto → Option (List D)} (hc : CallR X (.type T) r) (hr : VCN c r f) (ha : SAB c X W (e :: es) m) (hm : X.mg x = none) (hv : bootBuiltins x = some (.type T)) (hg : Gl X x := by rfl) (hn : x ≠ "__name__" := by decide) (hdb : (x == ("__debug__" : Str)) = false := by decide)
    (he : starEach (e :: es) X.env = (false, eval e X.env) :: starEach es X.env := by rfl) (hpl : (backTo pos (starEach es X.env)).any (·.1) = false := by rfl) :
    SN c X W (.Call (.Name x p) (e :: es) [] pos) (fun ρ => bd (m ρ) fun ds => opCN f ds) := ⟨ha.k, PE.imp (pe_callTy hc hg hm hv ha.p hn hdb he hpl) fun σ H Q h => call_n hr h⟩
end

section
variable {c : Cf}
/-- len -/
def lenD : List D → Sto → Option D := fun ds S => match ds with
  | [.lst xs] => some (.int xs.length)
  | [.tup xs] => some (.int xs.length)
  | [.scr xs] => some (.int xs.length)
  | [.str z] => if z.length ≤ LIM then some (.int z.length) else none
  | [.dct ks] => some (.int ks.length)
  | [.ref n] => match S[n]? with
    | some (.lst xs) => some (.int xs.length)
    | _ => none
  | _ => none
theorem call_lenA {X : Cx} : CallR X (.builtin "len") (fun xs H Q => (∃ p ys, xs = [.ref p] ∧ (SqL X.K H p ys ∨ SqT X.K H p ys) ∧ Q (.int ys.length) H) ∨ ((∃ z, xs = [.str z] ∧ z.length ≤ sizeLine ∧ Q (.int z.length) H) ∨ ∃ d kvs, xs = [.ref d] ∧ H d = some (.dK kvs) ∧ Q (.int kvs.length) H)) :=
  CallR.or call_len_seq (CallR.or call_len_str (by
    intro pins s σ H xs us Q I r h
    obtain ⟨d, kvs, rfl, hd, q⟩ := h
    exact call_lenD pins s σ H [.ref d] us Q I r ⟨d, kvs, rfl, hd, q⟩))
theorem vc_len : VC c (fun xs H Q => (∃ p ys, xs = [.ref p] ∧ (SqL c.K H p ys ∨ SqT c.K H p ys) ∧ Q (.int ys.length) H) ∨ ((∃ z, xs = [.str z] ∧ z.length ≤ sizeLine ∧ Q (.int z.length) H) ∨ ∃ d kvs, xs = [.ref d] ∧ H d = some (.dK kvs) ∧ Q (.int kvs.length) H)) lenD := by
  intro Ψ H S xs ds d Q s r e q
  unfold lenD at e
  split at e
  · cases e
    obtain ⟨v, rfl, r1⟩ := r.one
    obtain ⟨a, vs, rfl, h1, l2, r2⟩ := r1.lst s
    refine .inl ⟨a, vs, rfl, .inl (SqL.of h1), fin0 s q ?_⟩
    rw [r2.length]; exact .int _
  · cases e
    obtain ⟨v, rfl, r1⟩ := r.one
    obtain ⟨a, vs, rfl, h1, l2, r2⟩ := r1.tup s
    refine .inl ⟨a, vs, rfl, .inr h1, fin0 s q ?_⟩
    rw [r2.length]; exact .int _
  · cases e
    obtain ⟨v, rfl, r1⟩ := r.one
    obtain ⟨a, vs, rfl, h1, l2, r2⟩ := r1.scr s
    refine .inl ⟨a, vs, rfl, .inl h1, fin0 s q ?_⟩
    rw [r2.length]; exact .int _
  · split at e
    · cases e
      obtain ⟨v, rfl, r1⟩ := r.one
      cases r1.str
      exact .inr (.inl ⟨_, rfl, lim_of (by assumption), fin0 s q (.int _)⟩)
    · cases e
  · cases e
    obtain ⟨v, rfl, r1⟩ := r.one
    cases r1.rep (fun _ z => by cases z) with
    | dct h0 e0 r0 =>
      refine .inr (.inr ⟨_, _, rfl, s.phi _ _ h0, fin0 s q ?_⟩)
      have := congrArg List.length e0
      rw [List.length_map, List.length_map] at this
      rw [this]; exact .int _
  · split at e
    · cases e
      rename_i z
      obtain ⟨v, rfl, r1⟩ := r.one
      obtain ⟨p, h0, rfl, vs, h1, _, _, r2⟩ := r1.ref s z
      refine .inl ⟨p.1, vs, rfl, .inl (SqL.of h1), fin0 s q ?_⟩
      rw [r2.length]; exact .int _
    · cases e
  · cases e
/-- all, any of truth values -/
def bools : List D → Option (List Bool)
  | [] => some []
  | .bl b :: r => match bools r with
    | some bs => some (b :: bs)
    | none => none
  | _ => none
theorem Reps.bools {Ψ : Wd} : ∀ {vs : List V} {ds : List D} {bs : List Bool}, Reps c Ψ vs ds → Sm.bools ds = some bs → vs = bs.map V.bl
  | _, _, _, .nil, h => by simp only [Sm.bools, Option.some.injEq] at h; subst h; rfl
  | _, _, _, .cons h t, e => by
    cases h with
    | bl b =>
      unfold Sm.bools at e
      split at e
      · cases e
        rw [Reps.bools t (by assumption)]; rfl
      · cases e
    | _ => simp [Sm.bools] at e
def allD : List D → Sto → Option D := fun ds _ => match ds with
  | [.lst xs] => match bools xs with
    | some bs => some (.bl (bs.all id))
    | none => none
  | _ => none
def anyD : List D → Sto → Option D := fun ds _ => match ds with
  | [.lst xs] => match bools xs with
    | some bs => some (.bl (bs.any id))
    | none => none
  | _ => none
theorem vc_all : VC c (rAll c.K) allD := by
  intro Ψ H S xs ds d Q s r e q
  unfold allD at e
  split at e
  · split at e
    · cases e
      obtain ⟨v, rfl, r1⟩ := r.one
      obtain ⟨a, vs, rfl, h1, l2, r2⟩ := r1.lst s
      cases r2.bools (by assumption)
      exact ⟨a, _, rfl, SqL.of h1, fin0 s q (.bl _)⟩
    · cases e
  · cases e
theorem vc_any : VC c (rAny c.K) anyD := by
  intro Ψ H S xs ds d Q s r e q
  unfold anyD at e
  split at e
  · split at e
    · cases e
      obtain ⟨v, rfl, r1⟩ := r.one
      obtain ⟨a, vs, rfl, h1, l2, r2⟩ := r1.lst s
      cases r2.bools (by assumption)
      exact ⟨a, _, rfl, SqL.of h1, fin0 s q (.bl _)⟩
    · cases e
  · cases e
/-- tuple(x), list(x) -/
def tupleD : List D → Sto → Option D := fun ds _ => match ds with
  | [.lst xs] => some (.tup xs)
  | [.tup xs] => some (.tup xs)
  | _ => none
theorem vc_tuple : VC c (fun xs H Q => ∃ p ys, xs = [.ref p] ∧ ((SqL c.K H p ys ∧ ∀ l, H l = none → Q (.ref l) (upd H l (.tup ys))) ∨ (SqT c.K H p ys ∧ Q (.ref p) H))) tupleD := by
  intro Ψ H S xs ds d Q s r e q
  unfold tupleD at e
  split at e
  · cases e
    obtain ⟨v, rfl, r1⟩ := r.one
    obtain ⟨a, vs, rfl, h1, l2, r2⟩ := r1.lst s
    exact ⟨a, vs, rfl, .inl ⟨SqL.of h1, fun l hl => finT s q l2 r2 hl⟩⟩
  · cases e
    obtain ⟨v, rfl, r1⟩ := r.one
    obtain ⟨a, vs, rfl, h1, l2, r2⟩ := r1.tup s
    exact ⟨a, vs, rfl, .inr ⟨h1, fin0 s q (r1.rep fun _ z => by cases z)⟩⟩
  · cases e
def listD : List D → Sto → Option (List D) := fun ds _ => match ds with
  | [.lst xs] => some xs
  | [.tup xs] => some xs
  | _ => none
theorem vc_list : VCN c (fun xs H Q => ∃ p ys, xs = [.ref p] ∧ (SqL c.K H p ys ∨ SqT c.K H p ys) ∧ ∀ l, H l = none → Q (.ref l) (upd H l (.lst ys))) listD := by
  intro Ψ H S xs ds d Q s r e q
  unfold listD at e
  split at e
  · cases e
    obtain ⟨v, rfl, r1⟩ := r.one
    obtain ⟨a, vs, rfl, h1, l2, r2⟩ := r1.lst s
    exact ⟨a, vs, rfl, .inl (SqL.of h1), fun l hl => q l vs hl l2 r2⟩
  · cases e
    obtain ⟨v, rfl, r1⟩ := r.one
    obtain ⟨a, vs, rfl, h1, l2, r2⟩ := r1.tup s
    exact ⟨a, vs, rfl, .inr h1, fun l hl => q l vs hl l2 r2⟩
  · cases e
/-- int(x), abs(x), max, min of two -/
def intD : List D → Sto → Option D := fun ds _ => match ds with
  | [.int i] => some (.int i)
  | [.bl k] => some (.int (if k then 1 else 0))
  | _ => none
theorem vc_int : VC c (fun xs H Q => (∃ i, xs = [.int i] ∧ Q (.int i) H) ∨ ∃ k, xs = [.bl k] ∧ Q (.int (if k then 1 else 0)) H) intD := by
  intro Ψ H S xs ds d Q s r e q
  unfold intD at e
  split at e
  · cases e
    obtain ⟨v, rfl, r1⟩ := r.one
    cases r1.int
    exact .inl ⟨_, rfl, fin0 s q (.int _)⟩
  · cases e
    obtain ⟨v, rfl, r1⟩ := r.one
    cases r1.bl
    exact .inr ⟨_, rfl, fin0 s q (.int _)⟩
  · cases e
def absD : List D → Sto → Option D := fun ds _ => match ds with
  | [.int i] => some (.int (if i < 0 then -i else i))
  | _ => none
theorem vc_abs : VC c (fun xs H Q => ∃ i, xs = [.int i] ∧ Q (.int (if i < 0 then -i else i)) H) absD := by
  intro Ψ H S xs ds d Q s r e q
  unfold absD at e
  split at e
  · cases e
    obtain ⟨v, rfl, r1⟩ := r.one
    cases r1.int
    exact ⟨_, rfl, fin0 s q (.int _)⟩
  · cases e
end

/-! ### calls of the program's own defs -/
section
variable {c : Cf} {X : Cx} {W : L2.St → XK} {e a b o : Expr} {es : List Expr} {pos p2 p apos : Pos} {x : Str}
def callM (n : Nat) (m : List D → M D) (ds : List D) : M D := fun S => match Nat.decEq ds.length n with
  | .isTrue _ => m ds S
  | .isFalse _ => .stuck
def PromF (c : Cf) (n : Nat) (m : List D → M D) : Sp := fun vs H Q E => ∃ Ψ S ds, StoOk c Ψ H S ∧ Reps c Ψ vs ds ∧ ds.length = n ∧ Post c E Ψ H (m ds S) fun d S' => ∀ Ψ' v H', Ext Ψ H Ψ' H' → StoOk c Ψ' H' S' → Rep c Ψ' v d → Q v H'
/-- a def that keeps the promise m -/
structure Fn (c : Cf) (P : Program) (w : World) (mg : Str → Option Value) (base : Heap) (k : Nat) (f : Addr) (n : Nat) (m : List D → M D) : Prop where
  r : FnR P w c.K mg base (L2.CX P w) k f (PromF c n m)
  kp : PySem.W.keepIn c.K (.ref f) = true
theorem PromF.len {n : Nat} {m : List D → M D} {vs : List V} {H : Hp} {Q : VK} {E : XK} (h : PromF c n m vs H Q E) : vs.length = n := by
  obtain ⟨Ψ, S, ds, so, r, l, _⟩ := h
  rw [r.length, l]
theorem prom_of {n : Nat} {m : List D → M D} {Ψ : Wd} {H : Hp} {S : Sto} {vs : List V} {ds : List D} {E : XK} {R : D → Sto → Prop} {Q : VK} (so : StoOk c Ψ H S) (r : Reps c Ψ vs ds) (h : Post c E Ψ H (callM n m ds S) R)
    (k : ∀ d S' Ψ' v H', R d S' → Ext Ψ H Ψ' H' → StoOk c Ψ' H' S' → Rep c Ψ' v d → Q v H') : PromF c n m vs H Q E := by
  unfold callM at h
  split at h
  · exact ⟨Ψ, S, ds, so, r, by assumption, h.mono fun d S' q Ψ' v H' e s r => k d S' Ψ' v H' q e s r⟩
  · exact h.elim
/-- an exception of a callee reaches what is wanted here -/
def wx (W : L2.St → XK) : WX := fun cls d σ H => W σ cls d H
theorem pe_callFn {k n : Nat} {f : Addr} {m : List D → M D} {t : TA} (F : Fn c X.prog X.w X.mg X.base k f n m) (hk : X.K = c.K) (hr : Room k X.A) (hm : X.mg x = some (.ref f)) (tk : Takes X (wx W)) (ha : PA X (e :: es) t)
    (hg : Gl X x := by rfl) (hdb : (x == ("__debug__" : Str)) = false := by decide) (he : starEach (e :: es) X.env = (false, eval e X.env) :: starEach es X.env := by rfl) (hpl : (backTo pos (starEach es X.env)).any (·.1) = false := by rfl) :
    PE X (.Call (.Name x p) (e :: es) [] pos) (fun σ H Q => t σ H fun vs H1 => PromF c n m vs H1 Q (W σ)) := by
  refine ⟨fun pins s σ H Q I h => ?_⟩
  refine wpAny_Call_Name_kw (ld_glob I hg hm ?_ hdb)
  refine PySem.W.callWith_K (h₀ := X.base) I.ok.mod.kin (by rw [hk]; exact F.kp) (thn (ha.run pos pins s σ H _ I h) fun us s1 ⟨vs, H1, I1, r, q⟩ => ⟨I1.kIn, ?_⟩) he hpl
  refine wpAny_call (codeAny_mono (F.r X.A X.stack s1 H1 us vs Q (W σ) hr (hk ▸ I1.env0) r q) fun r s' hq => ?_)
  cases r with
  | error e => exact tk _ _ (XE.of_call I1 (fun _ _ _ h => h) hq)
  | ok fl =>
    cases fl with
    | ret u => exact I1.after hq
    | next => exact False.elim hq
    | brk => exact False.elim hq
    | cont => exact False.elim hq
theorem se_call {k n : Nat} {f : Addr} {m : List D → M D} {ma : Env → M (List D)} (F : Fn c X.prog X.w X.mg X.base k f n m) (hr : Room k X.A) (hm : X.mg x = some (.ref f)) (tk : Takes X (wx W)) (ha : SA c X W (e :: es) ma)
    (hg : Gl X x := by rfl) (hdb : (x == ("__debug__" : Str)) = false := by decide) (he : starEach (e :: es) X.env = (false, eval e X.env) :: starEach es X.env := by rfl) (hpl : (backTo pos (starEach es X.env)).any (·.1) = false := by rfl) :
    SE c X W (.Call (.Name x p) (e :: es) [] pos) (fun ρ => bd (ma ρ) fun ds => callM n m ds) := by
  refine ⟨ha.k, PE.imp (pe_callFn F ha.k hr hm tk ha.p hg hdb he hpl) fun σ H Q ⟨Ψ, ρ, S, F, so, eo, q⟩ => ⟨Ψ, ρ, S, F, so, eo, q.bd.mono fun ds S1 q1 Ψ1 vs H1 e1 so1 r1 => ?_⟩⟩
  exact prom_of so1 r1 (q1.ext e1) fun d S' Ψ' v H' q e2 s2 r2 => q Ψ' v H' (e1.trans e2) s2 r2
theorem se_call0 {k : Nat} {f : Addr} {m : List D → M D} (F : Fn c X.prog X.w X.mg X.base k f 0 m) (hk : X.K = c.K) (hr : Room k X.A) (hm : X.mg x = some (.ref f)) (tk : Takes X (wx W))
    (hg : Gl X x := by rfl) (hdb : (x == ("__debug__" : Str)) = false := by decide) : SE c X W (.Call (.Name x p) [] [] pos) (fun _ => callM 0 m []) := by
  refine ⟨hk, ⟨fun pins s σ H Q I h => ?_⟩⟩
  obtain ⟨Ψ, ρ, S, F', so, eo, q⟩ := h
  refine wpAny_Call_Name_kw (ld_glob I hg hm ?_ hdb)
  refine PySem.W.callWith_K0 I.kIn (by rw [hk]; exact F.kp) ?_
  refine wpAny_call (codeAny_mono (F.r X.A X.stack s H [] [] Q (W σ) hr (hk ▸ I.env0) .nil (prom_of so .nil q fun d S' Ψ' v H' q e2 s2 r2 => q Ψ' v H' e2 s2 r2)) fun r s' hq => ?_)
  cases r with
  | error e => exact tk _ _ (XE.of_call I (fun _ _ _ h => h) hq)
  | ok fl =>
    cases fl with
    | ret u => exact I.after hq
    | next => exact False.elim hq
    | brk => exact False.elim hq
    | cont => exact False.elim hq
end
end Sm

/-! text: Sim6 -/
set_option Elab.async false
set_option linter.all false
set_option maxRecDepth 100000
set_option maxHeartbeats 1000000
namespace Sm
open PySem PySem.Spec PyProof.Rows L2

/-! ### targets -/
inductive Tg where
  | one (i : Nat)
  | tup (is : List Nat)
def Tg.is : Tg → List Nat
  | .one i => [i]
  | .tup is => is
def setsS : L2.St → List Nat → List V → L2.St
  | σ, i :: is, v :: vs => setsS (σ.set i (some v)) is vs
  | σ, _, _ => σ
def setsE : Env → List Nat → List D → Env
  | ρ, i :: is, d :: ds => setsE (ρ.set i (.val d)) is ds
  | ρ, _, _ => ρ
def gTg (K : PySem.W.Frag) : Tg → TG
  | .one i => gName i
  | .tup is => fun v σ H Q => ∃ a xs, v = .ref a ∧ SqT K H a xs ∧ xs.length = is.length ∧ Q (setsS σ is xs) H
structure SG (X : Cx) (tg : Expr) (t : Tg) : Prop where
  p : PG X tg (gTg X.K t)
structure SGs (X : Cx) (es : List Expr) (is : List Nat) : Prop where
  p : PGs X es (fun vs σ H Q => vs.length = is.length ∧ Q (setsS σ is vs) H)
section
variable {X : Cx} {pos : Pos}
theorem sg_one {i : Nat} {x : Str} (hN : X.N.Nodup) (hi : X.N[i]? = some x := by rfl) (hx : Loc X.env.scope x := by first | exact Or.inl rfl | exact Or.inr rfl) (hf : X.fn x = true ∨ X.env.scope.names.lookup x = some .local := by first | exact .inl rfl | exact .inr rfl) : SG X (.Name x pos) (.one i) := ⟨pg_name hN hi hx hf⟩
theorem PGs.imp {es : List Expr} {t u : TGs} (h : PGs X es t) (k : ∀ vs σ H Q, u vs σ H Q → t vs σ H Q) : PGs X es u := ⟨fun pins s σ H vs us Q I r q => h.run pins s σ H vs us Q I r (k _ _ _ _ q)⟩
theorem PG.imp {e : Expr} {t u : TG} (h : PG X e t) (k : ∀ v σ H Q, u v σ H Q → t v σ H Q) : PG X e u := ⟨fun pins s σ H v uu Q I r q => h.run pins s σ H v uu Q I r (k _ _ _ _ q)⟩
theorem sgs_nil : SGs X [] [] := ⟨PGs.imp pgs_nil fun vs σ H Q ⟨l, q⟩ => by
  have e : vs = [] := List.eq_nil_of_length_eq_zero l
  subst e
  exact ⟨rfl, q⟩⟩
theorem sgs_cons {i : Nat} {is : List Nat} {x : Str} {es : List Expr} (t : SGs X es is) (hN : X.N.Nodup) (hi : X.N[i]? = some x := by rfl) (hx : Loc X.env.scope x := by first | exact Or.inl rfl | exact Or.inr rfl) (hf : X.fn x = true ∨ X.env.scope.names.lookup x = some .local := by first | exact .inl rfl | exact .inr rfl)
    (hs : (assignEach (.Name x pos :: es) X.env).map (·.2) = assign (.Name x pos) X.env :: (assignEach es X.env).map (·.2) := by rfl) : SGs X (.Name x pos :: es) (i :: is) := ⟨PGs.imp (pgs_cons (pg_name hN hi hx hf) t.p hs) fun vs σ H Q ⟨l, q⟩ => by
  cases vs with
  | nil => cases l
  | cons v r => exact ⟨v, r, rfl, by simpa using l, q⟩⟩
theorem sg_tup {es : List Expr} {k : Nat} {is : List Nat} (h : SGs X es is) (hc : X.calm = true := by rfl) (hn : (assignEach es X.env).length = is.length := by rfl) (hst : (assignEach es X.env).findIdx? (·.1) = none := by rfl) : SG X (.Tuple es k pos) (.tup is) :=
  ⟨PG.imp (pg_tup hc h.p hn hst) fun v σ H Q ⟨a, xs, e, hq, l, q⟩ => ⟨a, xs, e, hq, l, l, q⟩⟩
end
def bindD : Tg → D → Env → Option Env
  | .one i, d, ρ => some (ρ.set i (.val d))
  | .tup is, .tup ds, ρ => match Nat.decEq ds.length is.length with
    | .isTrue _ => some (setsE ρ is ds)
    | .isFalse _ => none
  | .tup _, _, _ => none
theorem wipe_set1 {σ : L2.St} {i : Nat} {x y : Option V} : ∀ vs : List Nat, (wipe (σ.set i x) vs).set i y = (wipe σ vs).set i y
  | [] => by unfold wipe; rw [List.set_set]
  | v :: vs => by
    unfold wipe
    by_cases e : v = i
    · subst e
      rw [List.set_set, List.set_set]
      exact wipe_set1 vs
    · rw [List.set_comm _ _ e, List.set_comm _ _ e, wipe_set1 vs]
theorem wipe_set {σ : L2.St} {i : Nat} {x : Option V} : ∀ {vs : List Nat}, i ∈ vs → wipe (σ.set i x) vs = wipe σ vs
  | [], h => by cases h
  | v :: vs, h => by
    unfold wipe
    by_cases e : v = i
    · subst e; exact wipe_set1 vs
    · rcases List.mem_cons.mp h with z | z
      · exact absurd z.symm e
      · rw [wipe_set z]
theorem wipe_sets {vs : List Nat} : ∀ {is : List Nat} {xs : List V} {σ : L2.St}, (∀ i ∈ is, i ∈ vs) → wipe (setsS σ is xs) vs = wipe σ vs
  | [], _, _, _ => rfl
  | i :: is, [], _, _ => rfl
  | i :: is, x :: xs, σ, h => by
    show wipe (setsS (σ.set i (some x)) is xs) vs = _
    rw [wipe_sets (fun j hj => h j (List.mem_cons_of_mem _ hj)), wipe_set (h i List.mem_cons_self)]
def Keep0 (σ : L2.St) (ρ : Env) (σ' : L2.St) (ρ' : Env) : Prop := ∀ k fs, ρ'[0]? = some (.ownI k fs) → ρ[0]? = some (.ownI k fs) ∧ σ'[0]? = σ[0]?
def off (F : Nat → List Addr) (i : Nat) : Nat → List Addr := fun j => if j = i then [] else F j
theorem off_sub {F : Nat → List Addr} {i j : Nat} {b : Addr} (h : b ∈ off F i j) : b ∈ F j ∧ j ≠ i := by
  unfold off at h
  split at h
  · cases h
  · exact ⟨h, by assumption⟩
theorem off_ne {F : Nat → List Addr} {i j : Nat} (h : j ≠ i) : off F i j = F j := if_neg h
theorem off_eq {F : Nat → List Addr} {i : Nat} : off F i i = [] := if_pos rfl
section
variable {c : Cf} {Ψ : Wd} {H : Hp} {S : Sto} {σ : L2.St} {ρ : Env} {F : Nat → List Addr}
theorem EnvOk.setV (e : EnvOk c Ψ σ ρ H F) (i : Nat) {v : V} {d : D} (r : Rep c Ψ v d) : EnvOk c Ψ (σ.set i (some v)) (ρ.set i (.val d)) H (off F i) := by
  refine ⟨by rw [List.length_set, List.length_set]; exact e.len, fun j s hs => ?_, fun j hj => ?_, fun j b hb => e.priv j b (off_sub hb).1, fun a b x ne hx hy => e.sep a b x ne (off_sub hx).1 (off_sub hy).1⟩
  · by_cases z : j = i
    · subst z
      have hl : j < ρ.length := by
        have := (List.getElem?_eq_some_iff.mp hs).1
        rwa [List.length_set] at this
      rw [List.getElem?_set_self hl] at hs
      cases hs
      rw [off_eq, List.getElem?_set_self (by rw [e.len]; exact hl)]
      exact ⟨rfl, v, rfl, r⟩
    · rw [List.getElem?_set_ne (Ne.symm z)] at hs
      rw [off_ne z, List.getElem?_set_ne (Ne.symm z)]
      exact e.slot j s hs
  · by_cases z : j = i
    · subst z; exact off_eq
    · rw [List.getElem?_set_ne (Ne.symm z)] at hj
      rw [off_ne z]; exact e.out j hj
theorem EnvOk.wipe1 (e : EnvOk c Ψ σ ρ H F) (i : Nat) : EnvOk c Ψ (σ.set i none) (ρ.set i .no) H (off F i) := by
  refine ⟨by rw [List.length_set, List.length_set]; exact e.len, fun j s hs => ?_, fun j hj => ?_, fun j b hb => e.priv j b (off_sub hb).1, fun a b x ne hx hy => e.sep a b x ne (off_sub hx).1 (off_sub hy).1⟩
  · by_cases z : j = i
    · subst z
      have hl : j < ρ.length := by
        have := (List.getElem?_eq_some_iff.mp hs).1
        rwa [List.length_set] at this
      rw [List.getElem?_set_self hl] at hs
      cases hs
      exact off_eq
    · rw [List.getElem?_set_ne (Ne.symm z)] at hs
      rw [off_ne z, List.getElem?_set_ne (Ne.symm z)]
      exact e.slot j s hs
  · by_cases z : j = i
    · subst z; exact off_eq
    · rw [List.getElem?_set_ne (Ne.symm z)] at hj
      rw [off_ne z]; exact e.out j hj
def wipeE (ρ : Env) : List Nat → Env
  | [] => ρ
  | v :: vs => (wipeE ρ vs).set v .no
theorem EnvOk.wipes (e : EnvOk c Ψ σ ρ H F) : ∀ vs : List Nat, ∃ F', EnvOk c Ψ (wipe σ vs) (wipeE ρ vs) H F' ∧ ∀ i b, b ∈ F' i → b ∈ F i
  | [] => ⟨F, e, fun _ _ h => h⟩
  | v :: vs => by
    obtain ⟨F', e', s⟩ := EnvOk.wipes e vs
    exact ⟨off F' v, e'.wipe1 v, fun i b h => s i b (off_sub h).1⟩
theorem keep0_set {i : Nat} {x : Option V} {d : D} : Keep0 σ ρ (σ.set i x) (ρ.set i (.val d)) := fun k fs h => by
  by_cases z : i = 0
  · subst z
    by_cases hl : 0 < ρ.length
    · rw [List.getElem?_set_self hl] at h
      cases h
    · rw [List.getElem?_eq_none (by rw [List.length_set]; omega)] at h
      cases h
  · rw [List.getElem?_set_ne z] at h
    exact ⟨h, List.getElem?_set_ne z⟩
theorem Keep0.trans {σ1 σ2 : L2.St} {ρ1 ρ2 : Env} (a : Keep0 σ ρ σ1 ρ1) (b : Keep0 σ1 ρ1 σ2 ρ2) : Keep0 σ ρ σ2 ρ2 := fun k fs h => by
  obtain ⟨h1, h2⟩ := b k fs h
  obtain ⟨h3, h4⟩ := a k fs h1
  exact ⟨h3, h2.trans h4⟩
theorem EnvOk.sets : ∀ {is : List Nat} {vs : List V} {ds : List D} {σ : L2.St} {ρ : Env} {F : Nat → List Addr}, EnvOk c Ψ σ ρ H F → Reps c Ψ vs ds →
    ∃ F', EnvOk c Ψ (setsS σ is vs) (setsE ρ is ds) H F' ∧ (∀ i b, b ∈ F' i → b ∈ F i) ∧ Keep0 σ ρ (setsS σ is vs) (setsE ρ is ds)
  | [], _, _, _, _, F, e, _ => ⟨F, e, fun _ _ h => h, fun _ _ h => ⟨h, rfl⟩⟩
  | _ :: _, _, _, _, _, F, e, .nil => ⟨F, e, fun _ _ h => h, fun _ _ h => ⟨h, rfl⟩⟩
  | i :: is, _, _, _, _, F, e, .cons h t => by
    obtain ⟨F', e', s, k⟩ := EnvOk.sets (is := is) (e.setV i h) t
    exact ⟨F', e', fun j b hb => (off_sub (s j b hb)).1, Keep0.trans keep0_set k⟩
theorem bind_ok {t : Tg} {v : V} {d : D} {ρ' : Env} {Q : L2.St → Hp → Prop} (so : StoOk c Ψ H S) (eo : EnvOk c Ψ σ ρ H F) (r : Rep c Ψ v d) (h : bindD t d ρ = some ρ')
    (q : ∀ σ' F', EnvOk c Ψ σ' ρ' H F' → (∀ i b, b ∈ F' i → b ∈ F i) → (∀ vs, (∀ i ∈ t.is, i ∈ vs) → wipe σ' vs = wipe σ vs) → Keep0 σ ρ σ' ρ' → Q σ' H) : gTg c.K t v σ H Q := by
  cases t with
  | one i =>
    unfold bindD at h
    cases h
    exact q _ _ (eo.setV i r) (fun j b hb => (off_sub hb).1) (fun vs hv => wipe_set (hv i (by simp [Tg.is]))) keep0_set
  | tup is =>
    cases d with
    | tup ds =>
      have h' : (match Nat.decEq ds.length is.length with
        | .isTrue _ => some (setsE ρ is ds)
        | .isFalse _ => none) = some ρ' := h
      split at h'
      · rename_i l _
        cases h'
        cases r with
        | tup h0 l0 r0 =>
          obtain ⟨F', e', s, k⟩ := EnvOk.sets (is := is) eo r0
          exact ⟨_, _, rfl, sqT_phi so h0, by rw [r0.length]; exact l, q _ _ e' s (fun vs hv => wipe_sets hv) k⟩
      · cases h'
    | _ => cases h
end

/-! ### what is walked -/
def ItOk (c : Cf) (Rl : Wd → Hp → Prop) (J : It) (ds : List D) : Prop := ds.length ≤ LIM ∧ ∃ (G : Hp → Prop) (Y : Nat → Hp → V → Hp → Prop), Walk J ds.length G Y ∧ (∀ Ψ S H, Rl Ψ H → StoOk c Ψ H S → G H) ∧
  ∀ i H x H' Ψ S d, Rl Ψ H → StoOk c Ψ H S → ds[i]? = some d → Y i H x H' → ∃ Ψ', Ext Ψ H Ψ' H' ∧ StoOk c Ψ' H' S ∧ Rep c Ψ' x d
def rI (c : Cf) (W : L2.St → XK) (m : Env → M (List D)) : TI := fun σ H R => ∃ Ψ ρ S F, StoOk c Ψ H S ∧ EnvOk c Ψ σ ρ H F ∧
  Post c (W σ) Ψ H (m ρ S) fun ds S' => ∀ Ψ' J H', Ext Ψ H Ψ' H' → StoOk c Ψ' H' S' → ItOk c (fun Ψ2 _ => Le Ψ' Ψ2) J ds → R J H'
def rIC (c : Cf) (W : L2.St → XK) (m : Env → M (List D)) : TI := fun σ H R => ∃ Ψ ρ S F, StoOk c Ψ H S ∧ EnvOk c Ψ σ ρ H F ∧
  Post c (W σ) Ψ H (m ρ S) fun ds S' => ∀ Ψ' J H', Ext Ψ H Ψ' H' → StoOk c Ψ' H' S' → ItOk c (fun Ψ2 H2 => Ext Ψ' H' Ψ2 H2) J ds → R J H'
structure SI (c : Cf) (X : Cx) (W : L2.St → XK) (tg e : Expr) (m : Env → M (List D)) : Prop where
  k : X.K = c.K
  p : PI X tg e (rI c W m)
structure SIC (c : Cf) (X : Cx) (W : L2.St → XK) (tg e : Expr) (m : Env → M (List D)) : Prop where
  k : X.K = c.K
  p : PI X tg e (rIC c W m)
theorem PI.imp {X : Cx} {tg e : Expr} {t u : TI} (h : PI X tg e t) (k : ∀ σ H Q, u σ H Q → t σ H Q) : PI X tg e u := ⟨fun pins s σ H Q I q => h.run pins s σ H Q I (k _ _ _ q)⟩
theorem ItOk.imp {c : Cf} {R R' : Wd → Hp → Prop} {J : It} {ds : List D} (h : ItOk c R J ds) (k : ∀ Ψ H, R' Ψ H → R Ψ H) : ItOk c R' J ds := by
  obtain ⟨l, G, Y, w, g, y⟩ := h
  exact ⟨l, G, Y, w, fun Ψ S H r => g Ψ S H (k _ _ r), fun i H x H' Ψ S d r => y i H x H' Ψ S d (k _ _ r)⟩
theorem SI.sic {c : Cf} {X : Cx} {W : L2.St → XK} {tg e : Expr} {m : Env → M (List D)} (h : SI c X W tg e m) : SIC c X W tg e m :=
  ⟨h.k, PI.imp h.p fun σ H R ⟨Ψ, ρ, S, F, so, eo, q⟩ => ⟨Ψ, ρ, S, F, so, eo, q.mono fun ds S' k Ψ' J H' x s i => k Ψ' J H' x s (i.imp fun _ _ z => z.le)⟩⟩
section
variable {c : Cf} {X : Cx} {W : L2.St → XK} {tg e a b : Expr} {pos p : Pos}
/-- the items of a list, a tuple -/
def seqM (d : D) : M (List D) := fun S => match d with
  | .lst ds => .ok ds S
  | .tup ds => .ok ds S
  | .scr ds => .ok ds S
  | _ => .stuck
theorem itok_list {Ψ : Wd} {a : Addr} {vs : List V} {ds : List D} (h : SqL c.K Ψ.fz a vs) (l : vs.length ≤ LIM) (r : Reps c Ψ vs ds) : ItOk c (fun Ψ2 _ => Le Ψ Ψ2) (Itl c.K a) ds := by
  refine ⟨by rw [← r.length]; exact l, fun H => SqL c.K H a vs, YAt vs, by rw [← r.length]; exact walk_list, fun Ψ2 S2 H2 l s => sqL_phi s (l.sqL h), fun i H2 x H3 Ψ2 S2 d l s hd y => ?_⟩
  · obtain ⟨e, hx⟩ := y
    subst e
    obtain ⟨v, hv, rv⟩ := r.get hd
    rw [hx] at hv; cases hv
    exact ⟨Ψ2, Ext.refl _ _, s, rv.mono l⟩
theorem itok_tup {Ψ : Wd} {a : Addr} {vs : List V} {ds : List D} (h : SqT c.K Ψ.fz a vs) (l : vs.length ≤ LIM) (r : Reps c Ψ vs ds) : ItOk c (fun Ψ2 _ => Le Ψ Ψ2) (Itt c.K a) ds := by
  refine ⟨by rw [← r.length]; exact l, fun H => SqT c.K H a vs, YAt vs, by rw [← r.length]; exact walk_tup, fun Ψ2 S2 H2 l s => sqT_phi s (l.sqT h), fun i H2 x H3 Ψ2 S2 d l s hd y => ?_⟩
  obtain ⟨e, hx⟩ := y
  subst e
  obtain ⟨v, hv, rv⟩ := r.get hd
  rw [hx] at hv; cases hv
  exact ⟨Ψ2, Ext.refl _ _, s, rv.mono l⟩
theorem si_seq {m : Env → M D} (h : SE c X W e m) : SI c X W tg e (fun ρ => bd (m ρ) seqM) := by
  refine ⟨h.k, ⟨fun pins s σ H R I q => ?_⟩⟩
  obtain ⟨Ψ, ρ, S, F, so, eo, q⟩ := q
  have q' := q.bd
  cases z : m ρ S with
  | stuck => rw [z] at q'; exact q'.elim
  | err k fs S1 =>
    rw [z] at q'
    exact (pi_list (tg := tg) h.p).run pins s σ H R I ⟨Ψ, ρ, S, F, so, eo, by rw [z]; exact q'⟩
  | ok d S1 =>
    rw [z] at q'
    have q2 : Post c (W σ) Ψ H (seqM d S1) _ := q'
    unfold seqM at q2
    split at q2
    · refine (pi_list (tg := tg) h.p).run pins s σ H R I ⟨Ψ, ρ, S, F, so, eo, by
        rw [z]
        intro Ψ1 v H1 e1 so1 r1
        cases r1 with
        | lst h1 l1 r1 => exact ⟨_, rfl, ⟨_, SqL.of (so1.phi _ _ h1)⟩, q2 Ψ1 _ H1 e1 so1 (h.k ▸ itok_list (.inl (.inl h1)) l1 r1)⟩⟩
    · refine (pi_tup (tg := tg) h.p).run pins s σ H R I ⟨Ψ, ρ, S, F, so, eo, by
        rw [z]
        intro Ψ1 v H1 e1 so1 r1
        cases r1 with
        | tup h1 l1 r1 => exact ⟨_, rfl, ⟨_, by rw [h.k]; exact sqT_phi so1 h1⟩, q2 Ψ1 _ H1 e1 so1 (h.k ▸ itok_tup h1 l1 r1)⟩⟩
    · refine (pi_list (tg := tg) h.p).run pins s σ H R I ⟨Ψ, ρ, S, F, so, eo, by
        rw [z]
        intro Ψ1 v H1 e1 so1 r1
        cases r1 with
        | scr h1 l1 r1 => exact ⟨_, rfl, ⟨_, by rw [h.k]; exact sqL_phi so1 h1⟩, q2 Ψ1 _ H1 e1 so1 (h.k ▸ itok_list h1 l1 r1)⟩⟩
    · exact q2.elim
/-- a comprehension may walk the frame's own list -/
theorem sic_own {m : Env → M D} (h : SB c X W e m) : SIC c X W tg e (fun ρ => bd (m ρ) fun d => fun S => match d with
    | .lst ds => .ok ds S
    | _ => .stuck) := by
  refine ⟨h.k, PI.imp (pi_list (tg := tg) h.p) fun σ H R ⟨Ψ, ρ, S, F, so, eo, q⟩ => ⟨Ψ, ρ, S, F, so, eo, q.bd.mono fun d S1 q1 Ψ1 x H1 e1 so1 r1 => ?_⟩⟩
  split at q1
  · rename_i ds
    rcases r1 with r1 | ⟨i, ds', ed, hi, hs⟩
    · cases r1 with
      | lst h1 l1 r1 => exact ⟨_, rfl, ⟨_, SqL.of (so1.phi _ _ h1)⟩, q1 Ψ1 _ H1 e1 so1 (h.k ▸ (itok_list (.inl (.inl h1)) l1 r1).imp fun _ _ z => z.le)⟩
    · cases ed
      have eo1 := eo.ext e1
      obtain ⟨a, vs, hF, z, h3, l, h4⟩ := eo1.slot i _ hi
      rw [hs] at z
      cases z
      refine ⟨a, rfl, ⟨_, SqL.of h3⟩, q1 Ψ1 _ H1 e1 so1 ?_⟩
      have pr := eo1.priv i a (by rw [hF]; simp)
      refine ⟨by rw [← h4.length]; exact l, fun H => SqL c.K H a vs, YAt vs, by rw [h.k, ← h4.length]; exact walk_list, fun Ψ2 S2 H2 x s => SqL.of (x.keep _ _ h3 pr.2.1), fun j H2 x H3 Ψ2 S2 d l s hd y => ?_⟩
      obtain ⟨e, hx⟩ := y
      subst e
      obtain ⟨v, hv, rv⟩ := h4.get hd
      rw [hx] at hv; cases hv
      exact ⟨Ψ2, Ext.refl _ _, s, rv.mono l.le⟩
  · exact q1.elim
/-- range -/
def rng (lo : Int) (n : Nat) : List D := (List.range n).map fun (i : Nat) => D.int (lo + i)
theorem rng_get {lo : Int} {n i : Nat} {d : D} (h : (rng lo n)[i]? = some d) : d = .int (lo + i) := by
  unfold rng at h
  rw [List.getElem?_map] at h
  cases e : (List.range n)[i]? with
  | none => rw [e] at h; cases h
  | some j =>
    rw [e] at h
    cases h
    have := List.getElem?_eq_some_iff.mp e
    obtain ⟨_, z⟩ := this
    rw [List.getElem_range] at z
    rw [z]
theorem rng_len {lo : Int} {n : Nat} : (rng lo n).length = n := by unfold rng; rw [List.length_map, List.length_range]
theorem itok_rng {Rl : Wd → Hp → Prop} {lo : Int} {n : Nat} (hn : n ≤ LIM) : ItOk c Rl (Itr lo n) (rng lo n) := by
  refine ⟨by rw [rng_len]; exact hn, fun _ => True, YFn fun i => .int (lo + i), by rw [rng_len]; exact walk_range, fun _ _ _ _ _ => trivial, fun i H2 x H3 Ψ2 S2 d l s hd y => ?_⟩
  obtain ⟨e, hx⟩ := y
  subst e hx
  rw [rng_get hd]
  exact ⟨Ψ2, Ext.refl _ _, s, .int _⟩
def inI (i : Int) : Bool := decide (-1000 ≤ i) && decide (i ≤ 99000)
theorem inI_b {i : Int} (h : inI i = true) : -(2 ^ 62) ≤ i ∧ i < 2 ^ 62 := by
  unfold inI at h
  simp only [Bool.and_eq_true, decide_eq_true_eq] at h
  omega
theorem inI_m {j : Int} (h' : inI j = true) : j.toNat ≤ LIM := by
  unfold inI at h'
  simp only [Bool.and_eq_true, decide_eq_true_eq] at h'
  show _ ≤ 100000
  omega
theorem si_range1 {m : Env → M (List D)} (h : SA c X W [a] m) (hm : X.mg "range" = none) (hg : Gl X "range" := by rfl) (hs : starEach [a] X.env = [(false, eval a X.env)] := by rfl) : SI c X W tg (.Call (.Name "range" p) [a] [] pos) (fun ρ => bd (m ρ) fun ds => fun S => match ds with
    | [.int j] => if inI j = true then .ok (rng 0 j.toNat) S else .stuck
    | _ => .stuck) := by
  refine ⟨h.k, PI.imp (pi_range1 (tg := tg) hg hm h.p hs) fun σ H R ⟨Ψ, ρ, S, F, so, eo, q⟩ => ⟨Ψ, ρ, S, F, so, eo, q.bd.mono fun ds S1 q1 Ψ1 vs H1 e1 so1 r1 => ?_⟩⟩
  split at q1
  · split at q1
    · cases r1 with
      | cons h1 t1 =>
        cases h1
        cases t1
        have b := inI_b (by assumption)
        exact ⟨_, rfl, b.1, b.2, q1 Ψ1 _ H1 e1 so1 (itok_rng (inI_m (by assumption)))⟩
    · exact q1.elim
  · exact q1.elim
end
end Sm

/-! text: Sim7 -/
set_option Elab.async false
set_option linter.all false
set_option maxRecDepth 100000
set_option maxHeartbeats 1000000
namespace Sm
open PySem PySem.Spec PyProof.Rows L2

theorem Ext.upd {Ψ Ψ' : Wd} {H H' : Hp} {a : Addr} {o : HO} (x : Ext Ψ H Ψ' H') (n : H a = none) : Ext Ψ H Ψ' (L2.upd H' a o) where
  le := x.le
  dom := fun b h => by
    by_cases e : b = a
    · subst e; exact n
    · rw [upd_ne e] at h; exact x.dom b h
  nphi := x.nphi
  nmu := x.nmu
  keep := fun b u h f => by
    rw [upd_ne (ne_of_none h n)]
    exact x.keep b u h f
theorem StoOk.updF {c : Cf} {Ψ : Wd} {H : Hp} {S : Sto} {a : Addr} {o : HO} (s : StoOk c Ψ H S) (p : Ψ.fz a = none) (f : ¬ Foot Ψ a) : StoOk c Ψ (L2.upd H a o) S where
  phi := fun b u h => by
    rw [upd_ne (ne_of_none h p)]
    exact s.phi b u h
  off := s.off
  offT := s.offT
  nd := s.nd
  len := s.len
  tbc := s.tbc
  tab := fun p hp => let ⟨ps, h1, h2⟩ := s.tab p hp; ⟨ps, by rw [upd_ne (fun z => f (.inr ⟨p.2, by rw [← z]; exact hp⟩))]; exact h1, h2⟩
  tnd := s.tnd
  obj := fun n u h => by
    obtain ⟨q, h1, h2⟩ := s.obj n u h
    have n1 : q.1 ≠ a := fun z => f (.inl ⟨n, q, h1, .inl z.symm⟩)
    have n2 : q.2 ≠ a := fun z => f (.inl ⟨n, q, h1, .inr z.symm⟩)
    refine ⟨q, h1, ?_⟩
    cases u with
    | lst ds => obtain ⟨vs, x1, x2, x3, x4⟩ := h2; exact ⟨vs, by rw [upd_ne n1]; exact x1, x2, x3, x4⟩
    | dct ks => obtain ⟨es, x1, x2, x4⟩ := h2; exact ⟨es, by rw [upd_ne n1]; exact x1, x2, x4⟩
    | dctF ks => exact h2
    | ins k fs =>
      obtain ⟨vs, x1, x2, x3, x4⟩ := h2
      refine ⟨vs, Slt.keep x1 fun b hb u hu => ?_, x2, by rw [upd_ne n2]; exact x3, x4⟩
      rcases hb with rfl | rfl
      · rw [upd_ne n1]; exact hu
      · rw [upd_ne n2]; exact hu
/-- what is new at D stays unknown -/
theorem Ext.free {Ψ Ψ' : Wd} {H H' : Hp} {a : Addr} (x : Ext Ψ H Ψ' H') (p : Ψ.fz a = none) (f : ¬ Foot Ψ a) (h : H a ≠ none) : Ψ'.fz a = none ∧ ¬ Foot Ψ' a := by
  refine ⟨?_, fun g => ?_⟩
  · cases q : Ψ'.fz a with
    | none => rfl
    | some o =>
      rcases x.nphi a o q with z | z | z
      · rw [p] at z; cases z
      · exact absurd z h
      · exact absurd z f
  · rcases x.nmu a g with z | z
    · exact f z
    · exact h z
theorem set_wipe {σ : L2.St} {i : Nat} : ∀ {vs : List Nat}, i ∈ vs → (wipe σ vs).set i none = wipe σ vs
  | [], h => by cases h
  | v :: vs, h => by
    unfold wipe
    by_cases e : v = i
    · subst e; rw [List.set_set]
    · rcases List.mem_cons.mp h with z | z
      · exact absurd z.symm e
      · rw [List.set_comm _ _ e, set_wipe z]
theorem wipe_wipe {σ : L2.St} {vs : List Nat} : ∀ {us : List Nat}, (∀ i ∈ us, i ∈ vs) → wipe (wipe σ vs) us = wipe σ vs
  | [], _ => rfl
  | u :: us, h => by
    show (wipe (wipe σ vs) us).set u none = _
    rw [wipe_wipe (fun i hi => h i (List.mem_cons_of_mem _ hi)), set_wipe (h u List.mem_cons_self)]
/-- a walk, whatever its turn asks -/
theorem it_gen {J : It} {n : Nat} {G : Hp → Prop} {Y : Nat → Hp → V → Hp → Prop} (w : Walk J n G Y) {H0 : Hp} {Qd : Hp → Prop} {B : V → Hp → (Hp → Prop) → Prop} (Pv : Nat → Hp → Prop) (h0 : Pv 0 H0) (hG : ∀ i H, i ≤ n → Pv i H → G H)
    (hs : ∀ i x H H', i < n → Pv i H → Y i H x H' → B x H' (Pv (i + 1))) (hd : ∀ H, Pv n H → Qd H) :
    ∃ W : Nat → Nat → Hp → Prop, (∃ m, W 0 m H0) ∧ ∀ i m H, W i m H → (J.stop i H ∧ Qd H) ∨ (J.go i H ∧ ∃ Nx : Hp → Prop, (∀ H', Nx H' → ∃ m', m' < m ∧ W (i + 1) m' H') ∧ ∀ x H', J.yld i H x H' → B x H' Nx) := by
  refine ⟨fun i m H => m = n - i ∧ i ≤ n ∧ Pv i H, ⟨n, by simp, Nat.zero_le _, h0⟩, ?_⟩
  rintro i m H ⟨rfl, hi, p⟩
  have q := hG i H hi p
  by_cases hlt : i < n
  · exact .inr ⟨w.goes i H hlt q, Pv (i + 1), fun H' p' => ⟨n - (i + 1), by omega, rfl, hlt, p'⟩, fun x H' y => hs i x H H' hlt p (w.yields i H x H' hlt q y)⟩
  · have e : i = n := by omega
    subst e
    exact .inl ⟨w.stops H q, hd H p⟩

abbrev WF : L2.St → XK := fun _ _ _ _ => False
/-- [e for .. in ds if t] -/
def lcM (bnd : D → Option Env) (t : Env → M Bool) (e : Env → M D) : List D → M (List D)
  | [] => rt []
  | d :: ds => match bnd d with
    | none => stk
    | some ρ => bd (t ρ) fun b => iteM b (bd (e ρ) fun y => bd (lcM bnd t e ds) fun ys => rt (y :: ys)) (lcM bnd t e ds)
structure STs (c : Cf) (X : Cx) (W : L2.St → XK) (ifs : List Expr) (m : Env → M Bool) : Prop where
  p : PTs X ifs (rT c W m)
theorem PTs.imp {X : Cx} {es : List Expr} {t u : TT} (h : PTs X es t) (k : ∀ σ H Q, u σ H Q → t σ H Q) : PTs X es u := ⟨fun pins s σ H Q I q => h.run pins s σ H Q I (k _ _ _ q)⟩
theorem sts_nil {c : Cf} {X : Cx} {W : L2.St → XK} : STs c X W [] (fun _ => rt true) := ⟨PTs.imp pts_nil fun σ H Q ⟨Ψ, ρ, S, F, so, eo, q⟩ => q Ψ H (Ext.refl _ _) so⟩
theorem sts_one {c : Cf} {X : Cx} {W : L2.St → XK} {a : Expr} {m : Env → M Bool} (h : ST c X W a m) : STs c X W [a] m := ⟨pts_one h.p⟩

section
variable {c : Cf} {X : Cx} {W : L2.St → XK} {mi : Env → M (List D)} {mt : Env → M Bool} {me : Env → M D} {t : Tg} {vs : List Nat}
/-- the list that grows, what is to come -/
structure Grow (c : Cf) (Ψ1 : Wd) (H1 : Hp) (D0 : Addr) (R : List D → Sto → Prop) (m : M (List D)) (n : Nat) (H2 : Hp) : Prop where
  ex : ∃ Ψ2 S2 acc accV, Ext Ψ1 H1 Ψ2 H2 ∧ StoOk c Ψ2 H2 S2 ∧ H2 D0 = some (.lst accV) ∧ Reps c Ψ2 accV acc ∧ accV.length ≤ n ∧ Ψ2.fz D0 = none ∧ ¬ Foot Ψ2 D0 ∧ Ok0 (m S2) fun ys S' => R (acc ++ ys) S'
theorem lc_r (hv : ∀ i ∈ t.is, i ∈ vs) {σ : L2.St} {H : Hp} {Q : VK} (h : rN c W (fun ρ => bd (mi ρ) fun ds => noX (lcM (fun d => bindD t d (wipeE ρ vs)) mt me ds)) σ H Q) :
    tLc (rIC c W mi) (gTg c.K t) (rT c WF mt) (rE c WF me) vs σ H Q := by
  obtain ⟨Ψ, ρ, S, F, so, eo, q⟩ := h
  refine ⟨Ψ, ρ, S, F, so, eo, q.bd.mono fun ds S1 q1 Ψ1 J H1 e1 so1 it => ?_⟩
  intro D0 hD
  obtain ⟨hl, G, Y, wk, hG, hY⟩ := it
  have q2 : Ok0 (lcM (fun d => bindD t d (wipeE ρ vs)) mt me ds S1) (RN c Ψ H Q) := Post.ok0 q1
  obtain ⟨F', eo', sub⟩ := eo.wipes vs
  refine it_gen (H0 := upd H1 D0 (.lst [])) (B := fun x H' Nx => gTg c.K t x (wipe σ vs) H' fun σ2 H2 => wipe σ2 vs = wipe σ vs ∧ rT c WF mt σ2 H2 fun b H3 =>
      if b = true then rE c WF me σ2 H3 fun y H4 => ∃ acc, H4 D0 = some (.lst acc) ∧ acc.length < sizeLine ∧ Nx (upd H4 D0 (.lst (acc ++ [y]))) else Nx H3)
    wk (fun i H2 => Grow c Ψ1 H1 D0 (RN c Ψ H Q) (lcM (fun d => bindD t d (wipeE ρ vs)) mt me (ds.drop i)) i H2) ?_ ?_ ?_ ?_
  · exact ⟨Ψ1, S1, [], [], Ext.lay hD, so1.lay hD, upd_same, .nil, Nat.zero_le _, so1.phiNone hD, so1.footNone hD, q2⟩
  · rintro i H2 hi ⟨Ψ2, S2, acc, accV, x2, s2, _⟩
    exact hG Ψ2 S2 H2 x2 s2
  · rintro i x H2 H3 hi ⟨Ψ2, S2, acc, accV, x2, s2, h2, r2, l2, p2, f2, k2⟩ y
    have hd : ds[i]? = some ds[i] := List.getElem?_eq_getElem hi
    obtain ⟨Ψ3, x3, s3, r3⟩ := hY i H2 x H3 Ψ2 S2 _ x2 s2 hd y
    have e13 := x2.trans x3
    rw [List.drop_eq_getElem_cons hi] at k2
    unfold lcM at k2
    cases hb : bindD t ds[i] (wipeE ρ vs) with
    | none => rw [hb] at k2; exact k2.elim
    | some ρ' =>
      rw [hb] at k2
      have k3 : Ok0 (bd (mt ρ') (fun b => iteM b (bd (me ρ') fun y => bd (lcM (fun d => bindD t d (wipeE ρ vs)) mt me (ds.drop (i + 1))) fun ys => rt (y :: ys)) (lcM (fun d => bindD t d (wipeE ρ vs)) mt me (ds.drop (i + 1)))) S2) _ := k2
      refine bind_ok s3 (eo'.ext (e1.trans e13)) r3 hb fun σ' F'' eo3 _ hw _ => ?_
      refine ⟨(hw vs hv).trans (wipe_wipe fun _ h => h), Ψ3, ρ', S2, F'', s3, eo3, (k3.bd.post).mono fun b S4 q4 Ψ4 H4 x4 s4 => ?_⟩
      have hD3 : H3 D0 = some (.lst accV) := x3.keep _ _ h2 f2
      have fr3 := x3.free p2 f2 (by rw [h2]; exact fun z => nomatch z)
      have hD4 : H4 D0 = some (.lst accV) := x4.keep _ _ hD3 fr3.2
      have fr4 := x4.free fr3.1 fr3.2 (by rw [hD3]; exact fun z => nomatch z)
      have e14 := e13.trans x4
      cases b with
      | false =>
        show if false = true then _ else _
        rw [if_neg Bool.false_ne_true]
        exact ⟨Ψ4, S4, acc, accV, e14, s4, hD4, r2.mono (x3.le.trans x4.le), Nat.le_succ_of_le l2, fr4.1, fr4.2, q4⟩
      | true =>
        show if true = true then _ else _
        rw [if_pos rfl]
        have q5 : Ok0 (bd (me ρ') (fun y => bd (lcM (fun d => bindD t d (wipeE ρ vs)) mt me (ds.drop (i + 1))) fun ys => rt (y :: ys)) S4) _ := q4
        refine ⟨Ψ4, ρ', S4, F'', s4, eo3.ext x4, (q5.bd.post).mono fun dy S5 q6 Ψ5 y5 H5 x5 s5 r5 => ?_⟩
        have hD5 : H5 D0 = some (.lst accV) := x5.keep _ _ hD4 fr4.2
        have fr5 := x5.free fr4.1 fr4.2 (by rw [hD4]; exact fun z => nomatch z)
        have e15 := e14.trans x5
        refine ⟨accV, hD5, lim_lt (by omega), Ψ5, S5, acc ++ [dy], accV ++ [y5], e15.upd hD, s5.updF fr5.1 fr5.2, upd_same, (r2.mono ((x3.le.trans x4.le).trans x5.le)).app (.cons r5 .nil), by rw [List.length_append]; exact Nat.succ_le_succ l2, fr5.1, fr5.2, ?_⟩
        refine q6.bd.mono fun ys S6 q7 => ?_
        rw [List.append_assoc]
        exact q7
  · rintro H2 ⟨Ψ2, S2, acc, accV, x2, s2, h2, r2, l2, p2, f2, k2⟩
    rw [List.drop_eq_nil_of_le (Nat.le_refl _)] at k2
    have k3 : RN c Ψ H Q (acc ++ []) S2 := k2
    rw [List.append_nil] at k3
    exact k3 Ψ2 D0 accV H2 (e1.trans x2) s2 h2 (Nat.le_trans l2 hl) r2 p2 f2 (e1.dom D0 hD)
end
section
variable {c : Cf} {X : Cx} {W : L2.St → XK} {mi : Env → M (List D)} {mt : Env → M Bool} {me : Env → M D} {t : Tg} {elt tg iter : Expr} {ifs : List Expr} {scope : Scope} {own : List (Str × Nat)} {pos : Pos}
theorem sn_lc (hi : SIC c X W tg iter mi) (hN : X.N.Nodup) (ok : BlkOk X.N X.env.scope scope own) (hv : ∀ i ∈ t.is, i ∈ own.map (·.2))
    (hg : ∀ (s : Shared) (H : Hp) (C : Addr) (cl : List (Str × Addr)) (fp : List Addr), SG (X.blk s H scope (compEnvC scope cl C X.env) fp) tg t) (ht : ∀ (s : Shared) (H : Hp) (C : Addr) (cl : List (Str × Addr)) (fp : List Addr), STs c (X.blk s H scope (compEnvC scope cl C X.env) fp) WF ifs mt)
    (he : ∀ (s : Shared) (H : Hp) (C : Addr) (cl : List (Str × Addr)) (fp : List Addr), SE c (X.blk s H scope (compEnvC scope cl C X.env) fp) WF elt me) (hc : X.calm = true := by rfl) (hs : ∀ x, foldedSetIterable iter X.env x = pure x := by intro _; rfl) :
    SN c X W (.ListComp elt [⟨tg, iter, ifs, 0⟩] scope pos) (fun ρ => bd (mi ρ) fun ds => noX (lcM (fun d => bindD t d (wipeE ρ (own.map (·.2)))) mt me ds)) :=
  ⟨hi.k, PE.imp (pe_lc hc hN hi.p ok (fun s H C cl fp => hi.k ▸ (hg s H C cl fp).p) (fun s H C cl fp => (ht s H C cl fp).p) (fun s H C cl fp => (he s H C cl fp).p) hs) fun σ H Q h => lc_r hv h⟩
end
end Sm

/-! text: Sim8 -/
set_option Elab.async false
set_option linter.all false
set_option maxRecDepth 100000
set_option maxHeartbeats 1000000
namespace Sm
open PySem PySem.Spec PyProof.Rows L2

/-! ### statements -/
inductive Out where
  | nx (ρ : Env)
  | ret (d : D)
  | bk (ρ : Env)
  | ct (ρ : Env)
/-- where the def began -/
structure Bs where
  wd : Wd
  H : Hp
  self : Addr
structure Gd (c : Cf) (B : Bs) (Ψ : Wd) (σ : L2.St) (ρ : Env) (H : Hp) (F : Nat → List Addr) (S : Sto) : Prop where
  x : Ext B.wd B.H Ψ H
  so : StoOk c Ψ H S
  eo : EnvOk c Ψ σ ρ H F
  fr : ∀ i b, b ∈ F i → B.H b = none
  me : ∀ k fs, ρ[0]? = some (.ownI k fs) → σ[0]? = some (some (.ref B.self))
def OutP (c : Cf) (B : Bs) (D : Ends) : Out → Sto → Prop
  | .nx ρ, S => ∀ Ψ σ H F, Gd c B Ψ σ ρ H F S → D.nx σ H
  | .bk ρ, S => ∀ Ψ σ H F, Gd c B Ψ σ ρ H F S → D.bk σ H
  | .ct ρ, S => ∀ Ψ σ H F, Gd c B Ψ σ ρ H F S → D.ct σ H
  | .ret d, S => ∀ Ψ v H, Ext B.wd B.H Ψ H → StoOk c Ψ H S → Rep c Ψ v d → D.rt v H
def rS (c : Cf) (W : XK) (m : Env → M Out) : TS := fun D σ H => ∃ B Ψ ρ S F, Gd c B Ψ σ ρ H F S ∧ Post c W B.wd B.H (m ρ S) (OutP c B D)
structure SS (c : Cf) (X : Cx) (W : XK) (st : Stmt) (m : Env → M Out) : Prop where
  k : X.K = c.K
  p : PS X st (rS c W m)
structure SSs (c : Cf) (X : Cx) (W : XK) (sts : List Stmt) (m : Env → M Out) : Prop where
  k : X.K = c.K
  p : PSs X sts (rS c W m)
abbrev cW (W : XK) : L2.St → XK := fun _ => W
section
variable {c : Cf} {B : Bs} {Ψ Ψ' : Wd} {σ : L2.St} {ρ : Env} {H H' : Hp} {F : Nat → List Addr} {S S' : Sto}
theorem Gd.ext (g : Gd c B Ψ σ ρ H F S) (x : Ext Ψ H Ψ' H') (s : StoOk c Ψ' H' S') : Gd c B Ψ' σ ρ H' F S' := ⟨g.x.trans x, s, g.eo.ext x, g.fr, g.me⟩
theorem set0 {α : Type} {l : List α} {i : Nat} {x y : α} (h : (l.set i x)[0]? = some y) : (i = 0 ∧ x = y) ∨ (i ≠ 0 ∧ l[0]? = some y) := by
  by_cases z : i = 0
  · subst z
    by_cases hl : 0 < l.length
    · rw [List.getElem?_set_self hl] at h
      exact .inl ⟨rfl, Option.some.inj h⟩
    · rw [List.getElem?_eq_none (by rw [List.length_set]; omega)] at h
      cases h
  · rw [List.getElem?_set_ne z] at h
    exact .inr ⟨z, h⟩
theorem Gd.setV (g : Gd c B Ψ σ ρ H F S) (i : Nat) {v : V} {d : D} (r : Rep c Ψ v d) : Gd c B Ψ (σ.set i (some v)) (ρ.set i (.val d)) H (off F i) S :=
  ⟨g.x, g.so, g.eo.setV i r, fun j b hb => g.fr j b (off_sub hb).1, fun k fs h => by
    rcases set0 h with ⟨_, z⟩ | ⟨n, z⟩
    · cases z
    · rw [List.getElem?_set_ne n]; exact g.me k fs z⟩
theorem Gd.keep0 {σ' : L2.St} {ρ' : Env} {F' : Nat → List Addr} (g : Gd c B Ψ σ ρ H F S) (e : EnvOk c Ψ σ' ρ' H F') (s : ∀ i b, b ∈ F' i → b ∈ F i) (k : Keep0 σ ρ σ' ρ') : Gd c B Ψ σ' ρ' H F' S :=
  ⟨g.x, g.so, e, fun j b hb => g.fr j b (s j b hb), fun kk fs h => by
    obtain ⟨h1, h2⟩ := k kk fs h
    rw [h2]; exact g.me kk fs h1⟩
/-- own things: the frame's place i holds what is at As -/
def onF (F : Nat → List Addr) (i : Nat) (As : List Addr) : Nat → List Addr := fun j => if j = i then As else F j
theorem onF_eq {i : Nat} {As : List Addr} : onF F i As i = As := if_pos rfl
theorem onF_ne {i j : Nat} {As : List Addr} (h : j ≠ i) : onF F i As j = F j := if_neg h
/-- a place is given an own thing -/
theorem EnvOk.setO (e : EnvOk c Ψ σ ρ H F) (i : Nat) (hi : i < ρ.length) {o : Option V} {s : Slot} {As : List Addr} (hs : SlotOk c Ψ H As (some o) s) (hp : ∀ b ∈ As, Ψ.fz b = none ∧ ¬ Foot Ψ b ∧ H b ≠ none)
    (hn : ∀ b ∈ As, ∀ j, j ≠ i → b ∉ F j) : EnvOk c Ψ (σ.set i o) (ρ.set i s) H (onF F i As) := by
  refine ⟨by rw [List.length_set, List.length_set]; exact e.len, fun j s' hs' => ?_, fun j hj => ?_, fun j b hb => ?_, fun a b x ne hx hy => ?_⟩
  · by_cases z : j = i
    · subst z
      rw [List.getElem?_set_self hi] at hs'
      cases hs'
      rw [onF_eq, List.getElem?_set_self (by rw [e.len]; exact hi)]
      exact hs
    · rw [List.getElem?_set_ne (Ne.symm z)] at hs'
      rw [onF_ne z, List.getElem?_set_ne (Ne.symm z)]
      exact e.slot j s' hs'
  · by_cases z : j = i
    · subst z
      rw [List.getElem?_set_self hi] at hj
      cases hj
    · rw [List.getElem?_set_ne (Ne.symm z)] at hj
      rw [onF_ne z]; exact e.out j hj
  · by_cases z : j = i
    · subst z; rw [onF_eq] at hb; exact hp b hb
    · rw [onF_ne z] at hb; exact e.priv j b hb
  · by_cases z : a = i
    · subst z
      rw [onF_eq] at hx
      rw [onF_ne (Ne.symm ne)] at hy
      exact hn x hx b (Ne.symm ne) hy
    · rw [onF_ne z] at hx
      by_cases z2 : b = i
      · subst z2
        rw [onF_eq] at hy
        exact hn x hy a z hx
      · rw [onF_ne z2] at hy
        exact e.sep a b x ne hx hy
theorem Gd.setO (g : Gd c B Ψ σ ρ H F S) (i : Nat) {o : Option V} {s : Slot} {As : List Addr} (hs : SlotOk c Ψ H As (some o) s) (hp : ∀ b ∈ As, Ψ.fz b = none ∧ ¬ Foot Ψ b ∧ H b ≠ none ∧ B.H b = none)
    (hn : ∀ b ∈ As, ∀ j, j ≠ i → b ∉ F j) (h0 : ∀ k fs, s = .ownI k fs → i ≠ 0) : ∃ F', Gd c B Ψ (σ.set i o) (ρ.set i s) H F' S := by
  by_cases hi : i < ρ.length
  · refine ⟨onF F i As, g.x, g.so, g.eo.setO i hi hs (fun b hb => ⟨(hp b hb).1, (hp b hb).2.1, (hp b hb).2.2.1⟩) hn, fun j b hb => ?_, fun k fs h => ?_⟩
    · by_cases z : j = i
      · subst z; rw [onF_eq] at hb; exact (hp b hb).2.2.2
      · rw [onF_ne z] at hb; exact g.fr j b hb
    · rcases set0 h with ⟨z1, z⟩ | ⟨n, z⟩
      · exact absurd z1 (h0 k fs z)
      · rw [List.getElem?_set_ne n]; exact g.me k fs z
  · refine ⟨F, ?_⟩
    have hl := g.eo.len
    rw [List.set_eq_of_length_le (l := σ) (by omega), List.set_eq_of_length_le (l := ρ) (by omega)]
    exact g
/-- a new list for the place i -/
theorem Gd.setN (g : Gd c B Ψ σ ρ H F S) (i : Nat) {a : Addr} {vs : List V} {ds : List D} (x : Ext Ψ H Ψ' H') (so : StoOk c Ψ' H' S') (h : H' a = some (.lst vs)) (l : vs.length ≤ LIM) (r : Reps c Ψ' vs ds) (p : Ψ'.fz a = none) (f : ¬ Foot Ψ' a) (n : H a = none) :
    ∃ F', Gd c B Ψ' (σ.set i (some (.ref a))) (ρ.set i (.own ds)) H' F' S' := by
  refine (g.ext x so).setO i (As := [a]) ⟨a, vs, rfl, rfl, h, l, r⟩ (fun b hb => ?_) (fun b hb j _ hj => ?_) (fun _ _ z => nomatch z)
  · rcases List.mem_singleton.mp hb with rfl
    have h0 : H' b ≠ none := by rw [h]; exact fun z => nomatch z
    exact ⟨p, f, h0, g.x.dom _ n⟩
  · rcases List.mem_singleton.mp hb with rfl
    exact (g.eo.priv j _ hj).2.2 n
/-- another beginning: here -/
noncomputable def hideF (H : Hp) (F : Nat → List Addr) : Hp := fun b => @ite _ (∃ i, b ∈ F i) (Classical.propDecidable _) none (H b)
theorem hideF_in {b : Addr} {i : Nat} (h : b ∈ F i) : hideF H F b = none := by unfold hideF; rw [if_pos ⟨i, h⟩]
theorem hideF_out {b : Addr} (h : ∀ i, b ∉ F i) : hideF H F b = H b := by unfold hideF; rw [if_neg (fun ⟨i, z⟩ => h i z)]
theorem hideF_sub {b : Addr} {o : HO} (h : hideF H F b = some o) : H b = some o := by
  by_cases z : ∃ i, b ∈ F i
  · obtain ⟨i, z⟩ := z
    rw [hideF_in z] at h; cases h
  · rw [hideF_out (fun i hi => z ⟨i, hi⟩)] at h; exact h
theorem hideF_none {b : Addr} (h : H b = none) : hideF H F b = none := by
  cases e : hideF H F b with
  | none => rfl
  | some o => rw [hideF_sub e] at h; cases h
noncomputable def Bs.at (B : Bs) (Ψ : Wd) (H : Hp) (F : Nat → List Addr) : Bs := ⟨Ψ, hideF H F, B.self⟩
theorem Gd.here (g : Gd c B Ψ σ ρ H F S) : Gd c (B.at Ψ H F) Ψ σ ρ H F S :=
  ⟨⟨Le.refl _, fun b h => hideF_none h, fun _ _ h => .inl h, fun _ h => .inl h, fun b o h _ => hideF_sub h⟩, g.so, g.eo, fun i b hb => hideF_in hb, g.me⟩
theorem Gd.there (g : Gd c B Ψ σ ρ H F S) : Ext B.wd B.H (B.at Ψ H F).wd (B.at Ψ H F).H where
  le := g.x.le
  dom := fun b h => by
    by_cases z : ∃ i, b ∈ F i
    · obtain ⟨i, z⟩ := z
      exact g.fr i b z
    · refine g.x.dom b ?_
      have h' : hideF H F b = none := h
      rwa [hideF_out (fun i hi => z ⟨i, hi⟩)] at h'
  nphi := g.x.nphi
  nmu := g.x.nmu
  keep := fun b o h f => by
    have h' := g.x.keep b o h f
    show hideF H F b = _
    rw [hideF_out (fun i hi => by rw [g.fr i b hi] at h; cases h)]
    exact h'
theorem Gd.back {σ' : L2.St} {ρ' : Env} {F' : Nat → List Addr} (g : Gd c B Ψ σ ρ H F S) (h : Gd c (B.at Ψ H F) Ψ' σ' ρ' H' F' S') : Gd c B Ψ' σ' ρ' H' F' S' :=
  ⟨g.there.trans h.x, h.so, h.eo, fun i b hb => g.there.dom b (h.fr i b hb), h.me⟩
/-- the own list at i has changed -/
theorem Gd.upd (g : Gd c B Ψ σ ρ H F S) {i : Nat} {a : Addr} {o : HO} {s s' : Slot} (hs : ρ[i]? = some s) (ha : a ∈ F i) (k : SlotOk c Ψ (L2.upd H a o) (F i) σ[i]? s') (h0 : ∀ kk fs, s' = .ownI kk fs → ∃ k2 f2, s = .ownI k2 f2) :
    Gd c B Ψ σ (ρ.set i s') (L2.upd H a o) F S := by
  have pr := g.eo.priv i a ha
  have hi : i < ρ.length := (List.getElem?_eq_some_iff.mp hs).1
  have nb : ∀ b, H b = none → b ≠ a := fun b hb z => pr.2.2 (by rw [← z]; exact hb)
  refine ⟨g.x.upd (g.fr i a ha), g.so.updF pr.1 pr.2.1, ⟨by rw [List.length_set]; exact g.eo.len, fun j s2 hs2 => ?_, fun j hj => ?_, fun j b hb => ?_, g.eo.sep⟩, g.fr, fun kk fs h => ?_⟩
  · by_cases z : j = i
    · subst z
      rw [List.getElem?_set_self hi] at hs2
      cases hs2
      exact k
    · rw [List.getElem?_set_ne (Ne.symm z)] at hs2
      refine (g.eo.slot j s2 hs2).keep (Le.refl _) fun b hb u hu => ?_
      rw [upd_ne (fun e => g.eo.sep j i b z hb (by rw [e]; exact ha))]
      exact hu
  · by_cases z : j = i
    · subst z
      rw [List.getElem?_set_self hi] at hj
      cases hj
    · rw [List.getElem?_set_ne (Ne.symm z)] at hj
      exact g.eo.out j hj
  · obtain ⟨p1, p2, p3⟩ := g.eo.priv j b hb
    refine ⟨p1, p2, fun z => ?_⟩
    by_cases e : b = a
    · subst e; rw [upd_same] at z; cases z
    · rw [upd_ne e] at z; exact p3 z
  · rcases set0 h with ⟨z1, z⟩ | ⟨n, z⟩
    · subst z1
      obtain ⟨k2, f2, e⟩ := h0 kk fs z
      subst e
      exact g.me k2 f2 hs
    · exact g.me kk fs z
end

/-! ### blocks -/
def seqS (a b : Env → M Out) : Env → M Out := fun ρ => bd (a ρ) fun o => match o with
  | .nx ρ' => b ρ'
  | o => rt o
def nextS : Env → M Out := fun ρ => rt (.nx ρ)
section
variable {c : Cf} {X : Cx} {W : XK} {st : Stmt} {rest sts : List Stmt} {e : Expr} {pos pos' : Pos} {i : Nat} {x : Str}
theorem sss_nil (k : X.K = c.K) : SSs c X W [] nextS := ⟨k, PSs.imp pss_nil fun D σ H ⟨B, Ψ, ρ, S, F, g, q⟩ => q Ψ σ H F g⟩
theorem sss_cons {a b : Env → M Out} (h : SS c X W st a) (t : SSs c X W rest b) : SSs c X W (st :: rest) (seqS a b) := by
  refine ⟨h.k, PSs.imp (pss_cons h.p t.p) fun D σ H ⟨B, Ψ, ρ, S, F, g, q⟩ => ⟨B, Ψ, ρ, S, F, g, q.bd.mono fun o S' q' => ?_⟩⟩
  cases o with
  | nx ρ' => exact fun Ψ σ H F g => ⟨B, Ψ, ρ', S', F, g, q'⟩
  | ret d => exact q'
  | bk ρ' => exact q'
  | ct ρ' => exact q'
theorem sss_one {a : Env → M Out} (h : SS c X W st a) : SSs c X W [st] a := ⟨h.k, PSs.imp (pss_one h.p) fun _ _ _ q => q⟩
/-- the own list at i may no more be changed: it is a value -/
def frzE (i : Nat) (ρ : Env) : Env := match ρ[i]? with
  | some (.own ds) => ρ.set i (.val (.lst ds))
  | _ => ρ
theorem Gd.frz {B : Bs} {Ψ : Wd} {σ : L2.St} {ρ : Env} {H : Hp} {F : Nat → List Addr} {S : Sto} (g : Gd c B Ψ σ ρ H F S) (i : Nat) : ∃ Ψ' F', Gd c B Ψ' σ (frzE i ρ) H F' S := by
  unfold frzE
  split
  · rename_i ds hs
    obtain ⟨a, vs, hF, h1, h2, l, h3⟩ := g.eo.slot i _ hs
    have ha : a ∈ F i := by rw [hF]; simp
    have pr := g.eo.priv i a ha
    have hi : i < ρ.length := (List.getElem?_eq_some_iff.mp hs).1
    have lk : Le Ψ (Ψ.know a (.lst vs)) := Le.know pr.1
    have phi : ∀ b o, (Ψ.know a (.lst vs)).fz b = some o → Ψ.fz b = some o ∨ b = a := fun b o e => by
      by_cases z : b = a
      · exact .inr z
      · have e' : L2.upd Ψ.fz a (.lst vs) b = some o := e
        rw [upd_ne z] at e'
        exact .inl e'
    refine ⟨Ψ.know a (.lst vs), off F i, ⟨g.x.le.trans lk, g.x.dom, fun b o e => ?_, g.x.nmu, g.x.keep⟩, g.so.know h2 pr.1 pr.2.1, ⟨by rw [List.length_set]; exact g.eo.len, fun j s hj => ?_, fun j hj => ?_, fun j b hb => ?_, fun p q b ne hp hq => g.eo.sep p q b ne (off_sub hp).1 (off_sub hq).1⟩, fun j b hb => g.fr j b (off_sub hb).1, fun k fs h => ?_⟩
    · rcases phi b o e with z | rfl
      · exact g.x.nphi b o z
      · exact .inr (.inl (g.fr i _ ha))
    · by_cases z : j = i
      · subst z
        rw [List.getElem?_set_self hi] at hj
        cases hj
        exact ⟨off_eq, _, h1, .lst (show L2.upd Ψ.fz a _ a = _ from upd_same) l (h3.mono lk)⟩
      · rw [List.getElem?_set_ne (Ne.symm z)] at hj
        rw [off_ne z]
        exact (g.eo.slot j s hj).keep lk fun _ _ _ h => h
    · by_cases z : j = i
      · subst z; exact off_eq
      · rw [List.getElem?_set_ne (Ne.symm z)] at hj
        rw [off_ne z]; exact g.eo.out j hj
    · obtain ⟨hb1, hb2⟩ := off_sub hb
      obtain ⟨p1, p2, p3⟩ := g.eo.priv j b hb1
      refine ⟨?_, p2, p3⟩
      have z : b ≠ a := fun e => g.eo.sep j i b hb2 hb1 (by rw [e]; exact ha)
      show L2.upd Ψ.fz a (.lst vs) b = none
      rw [upd_ne z]; exact p1
    · rcases set0 h with ⟨_, z⟩ | ⟨n, z⟩
      · cases z
      · exact g.me k fs z
  · exact ⟨Ψ, F, g⟩
def frzS : List Nat → Env → Env
  | [], ρ => ρ
  | i :: is, ρ => frzS is (frzE i ρ)
theorem Gd.frzs {B : Bs} {σ : L2.St} {H : Hp} {S : Sto} : ∀ (is : List Nat) {Ψ : Wd} {ρ : Env} {F : Nat → List Addr}, Gd c B Ψ σ ρ H F S → ∃ Ψ' F', Gd c B Ψ' σ (frzS is ρ) H F' S
  | [], Ψ, _, F, g => ⟨Ψ, F, g⟩
  | i :: is, _, _, _, g => by
    obtain ⟨Ψ1, F1, g1⟩ := g.frz i
    exact Gd.frzs is g1
theorem ss_frz (is : List Nat) {a : Env → M Out} (h : SS c X W st a) : SS c X W st (fun ρ => a (frzS is ρ)) :=
  ⟨h.k, PS.imp h.p fun D σ H ⟨B, Ψ, ρ, S, F, g, q⟩ => by
    obtain ⟨Ψ', F', g'⟩ := g.frzs is
    exact ⟨B, Ψ', frzS is ρ, S, F', g', q⟩⟩
theorem ss_if {c' : Expr} {a b : List Stmt} {mt : Env → M Bool} {ma mb : Env → M Out} (ht : ST c X (cW W) c' mt) (ha : SSs c X W a ma) (hb : SSs c X W b mb) : SS c X W (.If c' a b pos) (fun ρ => bd (mt ρ) fun t => iteM t (ma ρ) (mb ρ)) := by
  refine ⟨ht.k, PS.imp (ps_if ht.p ha.p hb.p) fun D σ H ⟨B, Ψ, ρ, S, F, g, q⟩ => ⟨Ψ, ρ, S, F, g.so, g.eo, (q.bd.ext g.x).mono fun t S1 q1 Ψ1 H1 x1 s1 => ?_⟩⟩
  cases t with
  | true => exact ⟨B, Ψ1, ρ, S1, F, g.ext x1 s1, q1⟩
  | false => exact ⟨B, Ψ1, ρ, S1, F, g.ext x1 s1, q1⟩
theorem ss_never (k : X.K = c.K) : SS c X W st (fun _ => stk) := ⟨k, PS.imp ps_never fun D σ H ⟨B, Ψ, ρ, S, F, g, q⟩ => q⟩
theorem ss_ret {m : Env → M D} (h : SE c X (cW W) e m) : SS c X W (.Return (some e) pos) (fun ρ => bd (m ρ) fun d => rt (.ret d)) :=
  ⟨h.k, PS.imp (ps_ret h.p) fun D σ H ⟨B, Ψ, ρ, S, F, g, q⟩ => ⟨Ψ, ρ, S, F, g.so, g.eo, (q.bd.ext g.x).mono fun d S1 q1 Ψ1 v H1 x1 s1 r1 => q1 Ψ1 v H1 (g.x.trans x1) s1 r1⟩⟩
theorem ss_expr {m : Env → M D} (h : SE c X (cW W) e m) (hs : swapsWith e none pos.line X.env = pure false := by rfl) : SS c X W (.Expr e pos) (fun ρ => bd (m ρ) fun _ => rt (.nx ρ)) :=
  ⟨h.k, PS.imp (ps_expr h.p hs) fun D σ H ⟨B, Ψ, ρ, S, F, g, q⟩ => ⟨Ψ, ρ, S, F, g.so, g.eo, (q.bd.ext g.x).mono fun d S1 q1 Ψ1 v H1 x1 s1 r1 => q1 Ψ1 σ H1 F (g.ext x1 s1)⟩⟩
theorem ss_set {m : Env → M D} (h : SE c X (cW W) e m) (hN : X.N.Nodup) (hi : X.N[i]? = some x := by rfl) (hx : Loc X.env.scope x := by first | exact Or.inl rfl | exact Or.inr rfl) (hs : swapsWith e (some (.Name x pos')) pos.line X.env = pure false := by rfl) (hf : X.fn x = true ∨ X.env.scope.names.lookup x = some .local := by first | exact .inl rfl | exact .inr rfl) :
    SS c X W (.Assign [.Name x pos'] e pos) (fun ρ => bd (m ρ) fun d => rt (.nx (ρ.set i (.val d)))) :=
  ⟨h.k, PS.imp (ps_set hN hi hx h.p hs hf) fun D σ H ⟨B, Ψ, ρ, S, F, g, q⟩ => ⟨Ψ, ρ, S, F, g.so, g.eo, (q.bd.ext g.x).mono fun d S1 q1 Ψ1 v H1 x1 s1 r1 => q1 Ψ1 _ H1 _ ((g.ext x1 s1).setV i r1)⟩⟩
theorem ss_setN {m : Env → M (List D)} (h : SN c X (cW W) e m) (hN : X.N.Nodup) (hi : X.N[i]? = some x := by rfl) (hx : Loc X.env.scope x := by first | exact Or.inl rfl | exact Or.inr rfl) (hs : swapsWith e (some (.Name x pos')) pos.line X.env = pure false := by rfl) (hf : X.fn x = true ∨ X.env.scope.names.lookup x = some .local := by first | exact .inl rfl | exact .inr rfl) :
    SS c X W (.Assign [.Name x pos'] e pos) (fun ρ => bd (m ρ) fun ds => rt (.nx (ρ.set i (.own ds)))) :=
  ⟨h.k, PS.imp (ps_set hN hi hx h.p hs hf) fun D σ H ⟨B, Ψ, ρ, S, F, g, q⟩ => ⟨Ψ, ρ, S, F, g.so, g.eo, (q.bd.ext g.x).mono fun ds S1 q1 Ψ1 a vs H1 x1 s1 h1 l1 r1 p1 f1 n1 => by
    obtain ⟨F', g'⟩ := g.setN i x1 s1 h1 l1 r1 p1 f1 n1
    exact q1 Ψ1 _ H1 F' g'⟩⟩
/-- a, b, .. = a tuple -/
theorem ss_asgT {m : Env → M D} {tg : Expr} {t : Tg} (h : SE c X (cW W) e m) (ht : SG X tg t) (hs : swapsWithSole [tg] e pos.line X.env = pure false := by rfl) (hw : swappedStores [tg] e X.env = pure none := by rfl)
    (h1 : (assignEach [tg] X.env).map (·.2) = [assign tg X.env] := by rfl) : SS c X W (.Assign [tg] e pos) (fun ρ => bd (m ρ) fun d => match bindD t d ρ with
      | some ρ' => rt (.nx ρ')
      | none => stk) := by
  refine ⟨h.k, PS.imp (ps_asg h.p ht.p hs hw h1) fun D σ H ⟨B, Ψ, ρ, S, F, g, q⟩ => ⟨Ψ, ρ, S, F, g.so, g.eo, (q.bd.ext g.x).mono fun d S1 q1 Ψ1 v H1 x1 s1 r1 => ?_⟩⟩
  cases hb : bindD t d ρ with
  | none => rw [hb] at q1; exact q1.elim
  | some ρ' =>
    rw [hb] at q1
    rw [h.k]
    have g1 := g.ext x1 s1
    exact bind_ok s1 g1.eo r1 hb fun σ' F' e' s' _ k' => q1 Ψ1 σ' H1 F' (g1.keep0 e' s' k')
end

/-! ### loops -/
def forM (t : Tg) (b : Env → M Out) : List D → Env → M Out
  | [], ρ => rt (.nx ρ)
  | d :: ds, ρ => match bindD t d ρ with
    | none => stk
    | some ρ' => bd (b ρ') fun o => match o with
      | .nx ρ2 => forM t b ds ρ2
      | .ct ρ2 => forM t b ds ρ2
      | .bk ρ2 => rt (.nx ρ2)
      | .ret d => rt (.ret d)
def whM (t : Env → M Bool) (b : Env → M Out) : Nat → Env → M Out
  | 0, _ => stk
  | n + 1, ρ => bd (t ρ) fun x => iteM x (bd (b ρ) fun o => match o with
      | .nx ρ2 => whM t b n ρ2
      | .ct ρ2 => whM t b n ρ2
      | .bk ρ2 => rt (.nx ρ2)
      | .ret d => rt (.ret d)) (rt (.nx ρ))
section
variable {c : Cf} {X : Cx} {W : XK} {pos : Pos} {tg iter : Expr} {body : List Stmt} {t : Tg}
theorem ss_for {mi : Env → M (List D)} {mb : Env → M Out} (hi : SI c X (cW W) tg iter mi) (ht : SG X tg t) (hb : SSs c X W body mb) (hp : PassesOwn (model X.prog X.w) X.A X.env X.xe) (hc : X.calm = true := by rfl)
    (hs : ∀ x, foldedSetIterable iter X.env x = pure x := by intro _; rfl) : SS c X W (.For tg iter body [] pos) (fun ρ => bd (mi ρ) fun ds => forM t mb ds ρ) := by
  refine ⟨hi.k, PS.imp (ps_for hp hc hi.p ht.p hb.p hs) fun D σ H ⟨B, Ψ, ρ, S, F, g, q⟩ => ⟨Ψ, ρ, S, F, g.so, g.eo, (q.bd.ext g.x).mono fun ds S1 q1 Ψ1 J H1 x1 s1 it => ?_⟩⟩
  obtain ⟨hl, G, Y, wk, hG, hY⟩ := it
  have g1 := g.ext x1 s1
  have ex : Ext B.wd B.H (B.at Ψ1 H1 F).wd (B.at Ψ1 H1 F).H := g1.there
  refine for_it wk (fun i σ2 H2 => ∃ Ψ2 ρ2 S2 F2, Gd c (B.at Ψ1 H1 F) Ψ2 σ2 ρ2 H2 F2 S2 ∧ Post c W B.wd B.H (forM t mb (ds.drop i) ρ2 S2) (OutP c B D)) ?_ ?_ ?_ ?_
  · exact ⟨Ψ1, ρ, S1, F, g1.here, q1⟩
  · rintro i σ2 H2 _ ⟨Ψ2, ρ2, S2, F2, g2, _⟩
    exact hG Ψ2 S2 H2 g2.x.le g2.so
  · rintro i x σ2 H2 H3 hlt ⟨Ψ2, ρ2, S2, F2, g2, q2⟩ y
    have hd : ds[i]? = some ds[i] := List.getElem?_eq_getElem hlt
    obtain ⟨Ψ3, x3, s3, r3⟩ := hY i H2 x H3 Ψ2 S2 _ g2.x.le g2.so hd y
    rw [List.drop_eq_getElem_cons hlt] at q2
    unfold forM at q2
    have g3 := g2.ext x3 s3
    cases hb' : bindD t ds[i] ρ2 with
    | none => rw [hb'] at q2; exact q2.elim
    | some ρ' =>
      rw [hb'] at q2
      rw [hi.k]
      refine bind_ok s3 g3.eo r3 hb' fun σ' F' e' sb _ k' => ?_
      have g4 := g3.keep0 e' sb k'
      refine ⟨B.at Ψ1 H1 F, Ψ3, ρ', S2, F', g4, ((Post.bd q2).ext ex).mono fun o S4 q4 => ?_⟩
      cases o with
      | nx ρ4 => exact fun Ψ4 σ4 H4 F4 g4 => ⟨Ψ4, ρ4, S4, F4, g4, q4⟩
      | ct ρ4 => exact fun Ψ4 σ4 H4 F4 g4 => ⟨Ψ4, ρ4, S4, F4, g4, q4⟩
      | bk ρ4 => exact fun Ψ4 σ4 H4 F4 g4 => q4 Ψ4 σ4 H4 F4 (g1.back g4)
      | ret d => exact fun Ψ4 v H4 x4 s4 r4 => q4 Ψ4 v H4 (ex.trans x4) s4 r4
  · rintro σ2 H2 ⟨Ψ2, ρ2, S2, F2, g2, q2⟩
    rw [List.drop_eq_nil_of_le (Nat.le_refl _)] at q2
    exact q2 Ψ2 σ2 H2 F2 (g1.back g2)
theorem ss_while {cond : Expr} {mt : Env → M Bool} {mb : Env → M Out} (n : Nat) (ht : ST c X (cW W) cond mt) (hb : SSs c X W body mb) (hp : PassesOwn (model X.prog X.w) X.A X.env X.xe) : SS c X W (.While cond body [] pos) (fun ρ => whM mt mb n ρ) := by
  refine ⟨ht.k, PS.imp (ps_while hp ht.p hb.p) fun D σ H ⟨B, Ψ, ρ, S, F, g, q⟩ => ?_⟩
  refine ⟨fun n σ2 H2 => ∃ Ψ2 ρ2 S2 F2, Gd c B Ψ2 σ2 ρ2 H2 F2 S2 ∧ Post c W B.wd B.H (whM mt mb n ρ2 S2) (OutP c B D), ⟨n, Ψ, ρ, S, F, g, q⟩, ?_⟩
  rintro n σ2 H2 ⟨Ψ2, ρ2, S2, F2, g2, q2⟩
  cases n with
  | zero => exact q2.elim
  | succ n =>
    unfold whM at q2
    refine ⟨Ψ2, ρ2, S2, F2, g2.so, g2.eo, ((Post.bd q2).ext g2.x).mono fun b S3 q3 Ψ3 H3 x3 s3 => ?_⟩
    have g3 := g2.ext x3 s3
    cases b with
    | false =>
      show if false = true then _ else _
      rw [if_neg Bool.false_ne_true]
      exact q3 Ψ3 σ2 H3 F2 g3
    | true =>
      show if true = true then _ else _
      rw [if_pos rfl]
      refine ⟨fun σ' H' => ∃ Ψ2 ρ2 S2 F2, Gd c B Ψ2 σ' ρ2 H' F2 S2 ∧ Post c W B.wd B.H (whM mt mb n ρ2 S2) (OutP c B D), fun σ' H' h => ⟨n, Nat.lt_succ_self n, h⟩, ?_⟩
      refine ⟨B, Ψ3, ρ2, S3, F2, g3, (Post.bd q3).mono fun o S4 q4 => ?_⟩
      cases o with
      | nx ρ4 => exact fun Ψ4 σ4 H4 F4 g4 => ⟨Ψ4, ρ4, S4, F4, g4, q4⟩
      | ct ρ4 => exact fun Ψ4 σ4 H4 F4 g4 => ⟨Ψ4, ρ4, S4, F4, g4, q4⟩
      | bk ρ4 => exact q4
      | ret d => exact q4
end
end Sm

/-! text: Sim9 -/
set_option Elab.async false
set_option linter.all false
set_option maxRecDepth 100000
set_option maxHeartbeats 1000000
namespace Sm
open PySem PySem.Spec PyProof.Rows L2

/-! ### a def by its body -/
def outM (o : Out) : M D := match o with
  | .nx _ => rt .non
  | .ret d => rt d
  | _ => stk
def fnM (n : Nat) (mb : Env → M Out) (ds : List D) : M D := bd (mb (ds.map Slot.val ++ List.replicate (n - ds.length) .no)) outM
theorem env_start {c : Cf} {Ψ : Wd} {H : Hp} {N : List Str} {vs : List V} {ds : List D} (r : Reps c Ψ vs ds) : EnvOk c Ψ (L2.start N vs) (ds.map Slot.val ++ List.replicate (N.length - ds.length) .no) H (fun _ => []) := by
  have hl := r.length
  refine ⟨by unfold L2.start; rw [List.length_append, List.length_append, List.length_map, List.length_map, List.length_replicate, List.length_replicate, hl], fun i s hs => ?_, fun _ _ => rfl, fun _ _ h => (by cases h), fun _ _ _ _ h => (by cases h)⟩
  by_cases hi : i < ds.length
  · rw [List.getElem?_append_left (by rw [List.length_map]; exact hi), List.getElem?_map] at hs
    cases hd : ds[i]? with
    | none => rw [hd] at hs; cases hs
    | some d =>
      rw [hd] at hs
      cases hs
      obtain ⟨v, hv, rv⟩ := r.get hd
      refine ⟨rfl, v, ?_, rv⟩
      unfold L2.start
      rw [List.getElem?_append_left (by rw [List.length_map, hl]; exact hi), List.getElem?_map, hv]
      rfl
  · rw [List.getElem?_append_right (by rw [List.length_map]; omega), List.getElem?_replicate] at hs
    split at hs
    · cases hs
      exact rfl
    · cases hs
theorem env_no {n : Nat} {ds : List D} {k : Nat} {fs : List (Option D)} (h : (ds.map Slot.val ++ List.replicate n .no)[0]? = some (.ownI k fs)) : False := by
  cases ds with
  | nil =>
    cases n with
    | zero => cases h
    | succ n => cases h
  | cons d ds => cases h
section
variable {c : Cf} {P : Program} {w : World} {mg : Str → Option Value} {base : Heap} {x qual : Str} {params : Arguments} {body : List Stmt} {scope : Scope} {dvs : List V} {kws : List (Str × V)} {f : Addr} {fd : FuncData} {N ps : List Str} {k : Nat} {mb : Env → M Out}
theorem fnOk_mk (F : FunD c.K x qual params body scope dvs kws f fd) (sc : FnScope N ps scope)
    (hbody : ∀ (cdv : Value) (A : Around) (outer : List PySem.Env) (s : Shared) (H : Hp) (E : XK), Room k (A.deeper (envOfC qual scope s.heap.objs.size f cdv)) → SSs c (cxOf (L2.CX P w) P w c.K mg base N qual scope f cdv A outer s H E) E body mb) :
    FnOk P w c.K mg base (L2.CX P w) (k + 1) f fd ps (PromF c ps.length (fnM N.length mb)) := by
  refine F.ok sc (fun vs H Q E h => h.len) fun cdv A outer s H vs Q E hr h => ⟨_, (hbody cdv A outer s H E hr).p, ?_⟩
  obtain ⟨Ψ, S, ds, so, r, l, q⟩ := h
  refine ⟨⟨Ψ, H, 0⟩, Ψ, _, S, fun _ => [], ⟨Ext.refl _ _, so, env_start r, fun _ _ h => (by cases h), fun k fs h => (env_no h).elim⟩, (Post.bd q).mono fun o S' q' => ?_⟩
  cases o with
  | nx ρ => exact fun Ψ' σ' H' F' g => q' Ψ' .non H' g.x g.so .non
  | ret d => exact q'
  | bk ρ => exact q'.elim
  | ct ρ => exact q'.elim
theorem fn_mk (F : FunD c.K x qual params body scope dvs kws f fd) (sc : FnScope N ps scope) (hb : Binds c.K fd ps [])
    (hbody : ∀ (cdv : Value) (A : Around) (outer : List PySem.Env) (s : Shared) (H : Hp) (E : XK), Room k (A.deeper (envOfC qual scope s.heap.objs.size f cdv)) → SSs c (cxOf (L2.CX P w) P w c.K mg base N qual scope f cdv A outer s H E) E body mb) :
    Fn c P w mg base (k + 1) f ps.length (fnM N.length mb) := by
  refine ⟨?_, F.kp⟩
  have q := (fnOk_mk F sc hbody).raw hb .nil
  exact q.imp fun vs H Q E h => by rw [List.append_nil]; exact h
theorem Fn.mono {n : Nat} {m : List D → M D} {j k : Nat} (F : Fn c P w mg base j f n m) (h : j ≤ k) : Fn c P w mg base k f n m := ⟨F.r.mono h, F.kp⟩
/-- what leaves a def is taken -/
theorem tk_def {cd : Value} {A : Around} {outer : List PySem.Env} {s : Shared} {H : Hp} {E : XK} : Takes (cxOf (L2.CX P w) P w c.K mg base N qual scope f cd A outer s H E) (wx (cW E)) := takes_of rfl rfl rfl rfl
theorem pa_def {cd : Value} {A : Around} {outer : List PySem.Env} {s : Shared} {H : Hp} {E : XK} : PassesOwn (model (cxOf (L2.CX P w) P w c.K mg base N qual scope f cd A outer s H E).prog (cxOf (L2.CX P w) P w c.K mg base N qual scope f cd A outer s H E).w) (cxOf (L2.CX P w) P w c.K mg base N qual scope f cd A outer s H E).A (cxOf (L2.CX P w) P w c.K mg base N qual scope f cd A outer s H E).env (cxOf (L2.CX P w) P w c.K mg base N qual scope f cd A outer s H E).xe := passes_of rfl
/-- within a comprehension nothing is let out -/
theorem tk_in {X : Cx} : Takes X (wx WF) := takes0
end

/-! ### isinstance -/
/-- the name of the type -/
def tyN : D → Option String
  | .non => some "NoneType"
  | .bl _ => some "bool"
  | .int _ => some "int"
  | .str _ => some "str"
  | .tup _ => some "tuple"
  | .lst _ => some "list"
  | .scr _ => some "list"
  | .dct _ => some "dict"
  | .dctL _ => some "dict"
  | _ => none
def kitD (a b : String) : Option Bool := match a, b with
  | "bool", "int" => some true
  | a, b => if ["int", "bool", "str", "tuple", "list", "dict"].contains b = true then some (a == b) else none
def isiD : List D → Sto → Option D := fun ds S => match ds with
  | [d, .ty n] => (tyN d).bind fun a => (kitD a n).map D.bl
  | _ => none
theorem kitD_ok {a b : String} {r : Bool} (ha : ["NoneType", "bool", "int", "str", "tuple", "list", "dict"].contains a = true) (h : kitD a b = some r) : L2.kitB a b = some r := by
  have hb : b ∈ ["int", "bool", "str", "tuple", "list", "dict"] := by
    unfold kitD at h
    split at h
    · simp
    · split at h
      · rename_i q
        simpa using q
      · cases h
  have ha' : a ∈ ["NoneType", "bool", "int", "str", "tuple", "list", "dict"] := by simpa using ha
  have key : ∀ a ∈ ["NoneType", "bool", "int", "str", "tuple", "list", "dict"], ∀ b ∈ ["int", "bool", "str", "tuple", "list", "dict"], L2.kitB a b = kitD a b := by decide +kernel
  rw [key a ha' b hb]
  exact h
theorem ty_of {c : Cf} {Ψ : Wd} {H : Hp} {S : Sto} {v : V} {d : D} {a : String} (so : StoOk c Ψ H S) (r : RepH c Ψ H v d) (h : tyN d = some a) : L2.TyX c.K H v (.type a) ∧ ["NoneType", "bool", "int", "str", "tuple", "list", "dict"].contains a = true := by
  have key : ∀ x, ["NoneType", "bool", "int", "str", "tuple", "list", "dict"].contains x = true → x = a → ["NoneType", "bool", "int", "str", "tuple", "list", "dict"].contains a = true := fun x h e => by rw [← e]; exact h
  rcases r with r | ⟨b, vs, ds, rfl, rfl, h1, _, _⟩
  · cases r with
    | non => cases h; exact ⟨.base .non, by decide⟩
    | bl x => cases h; exact ⟨.base (.bl x), by decide⟩
    | int x => cases h; exact ⟨.base (.int x), by decide⟩
    | str x => cases h; exact ⟨.base (.str x), by decide⟩
    | tup q l r =>
      cases h
      refine ⟨?_, by decide⟩
      rcases sqT_phi so q with (q | ⟨o, q⟩) | ⟨o, its, n, q1, q2, _⟩
      · exact .base (.tup q)
      · exact .fTuple q
      · exact .kTuple q1 q2
    | lst q l r => cases h; exact ⟨.base (.lst (so.phi _ _ q)), by decide⟩
    | scr q l r =>
      cases h
      refine ⟨?_, by decide⟩
      rcases sqL_phi so q with (q | ⟨o, q⟩) | ⟨o, its, n, q1, q2, _⟩
      · exact .base (.lst q)
      · exact .base (.frz q)
      · exact .kList q1 q2
    | dct q e r => cases h; exact ⟨.base (.dK (so.phi _ _ q)), by decide⟩
    | dctL q e r => cases h; exact ⟨.fDict (so.phi _ _ q), by decide⟩
    | _ => cases h
  · cases h
    exact ⟨.base (.lst h1), by decide⟩
theorem vc_isi {c : Cf} : VC c (L2.rIsi c.K) isiD := by
  intro Ψ H S xs ds d Q s r e q
  unfold isiD at e
  split at e
  · rename_i d0 n
    cases ha : tyN d0 with
    | none => rw [ha] at e; cases e
    | some a =>
      rw [ha] at e
      have e' : (kitD a n).map D.bl = some d := e
      cases hb : kitD a n with
      | none => rw [hb] at e'; cases e'
      | some b =>
        rw [hb] at e'
        cases e'
        obtain ⟨v, v', rfl, r1, r2⟩ := r.two
        obtain ⟨t1, t2⟩ := ty_of s r1 ha
        have ev : v' = .ty n := by
          rcases r2 with r2 | ⟨_, _, _, _, z, _⟩
          · cases r2; rfl
          · cases z
        subst ev
        exact ⟨v, .ty n, _, _, b, rfl, .ty n, t1, L2.kit_ty (kitD_ok t2 hb), fin0 s q (.bl b)⟩
  · cases e
/-- the own classes, by number: 0 .. n - 1 -/
structure CF (c : Cf) (n : Nat) : Prop where
  sc : ∀ k, k < n → SlX.SCls c.K (c.cls k)
  si : ∀ k, k < n → SlX.SIsi c.K (c.cls k)
  kt : ∀ k j, k < n → j < n → PySem.W.kitOne c.K (.ref (c.cls k)) (.ref (c.cls j)) = some (decide (k = j))
  kb : ∀ j, j < n → ∀ a, a ∈ ["NoneType", "bool", "int", "str", "tuple", "list", "dict"] → PySem.W.kitOne c.K (.type a) (.ref (c.cls j)) = some false
/-- isinstance(x, an own class) -/
def isoD (n : Nat) : List D → Sto → Option D := fun ds _ => match ds with
  | [.ins k _, .cls j] => if k < n ∧ j < n then some (.bl (decide (k = j))) else none
  | [d, .cls j] => match tyN d with
    | some _ => if j < n then some (.bl false) else none
    | none => none
  | _ => none
theorem vc_iso {c : Cf} {n : Nat} (C : CF c n) : VC c (fun xs H Q => (∃ u, SlX.rIsiSl c.K u xs H Q) ∨ L2.rIsi c.K xs H Q) (isoD n) := by
  intro Ψ H S xs ds d Q s r e q
  unfold isoD at e
  split at e
  · rename_i k fs j
    split at e
    · cases e
      rename_i z
      obtain ⟨v, v', rfl, r1, r2⟩ := r.two
      have ev : v' = .ref (c.cls j) := by
        rcases r2 with r2 | ⟨_, _, _, _, z, _⟩
        · cases r2; rfl
        · cases z
      subst ev
      rcases r1 with r1 | ⟨_, _, _, _, z, _⟩
      · cases r1 with
        | ins h rs =>
          rename_i a dx vs
          have hs : SlX.Slt H a (c.cls k) dx (vs.map some) := Slt.keep h fun b _ o ho => s.phi b o ho
          exact .inl ⟨.ref (c.cls j), a, c.cls k, dx, _, .ref (c.cls j), _, rfl, rfl, fun w hw => hw, hs, C.sc k z.1, C.si k z.1, C.kt k j z.1 z.2, fin0 s q (.bl _)⟩
      · cases z
    · cases e
  · rename_i d0 j _
    split at e
    · rename_i a ha
      split at e
      · rename_i hj
        cases e
        obtain ⟨v, v', rfl, r1, r2⟩ := r.two
        obtain ⟨t1, t2⟩ := ty_of s r1 ha
        have ev : v' = .ref (c.cls j) := by
          rcases r2 with r2 | ⟨_, _, _, _, z, _⟩
          · cases r2; rfl
          · cases z
        subst ev
        exact .inr ⟨v, _, _, _, false, rfl, .own _, t1, C.kb j hj a (by simpa using t2), fin0 s q (.bl _)⟩
      · cases e
    · cases e
  · cases e
theorem call_iso {X : Cx} : CallR X (.builtin "isinstance") (fun xs H Q => (∃ u, SlX.rIsiSl X.K u xs H Q) ∨ L2.rIsi X.K xs H Q) := by
  intro pins s σ H xs us Q I r h
  rcases h with ⟨u, h⟩ | h
  · exact SlX.call_isiSl u pins s σ H xs us Q I r h
  · exact L2.call_isi pins s σ H xs us Q I r h
end Sm

/-! text: Sim10 -/
set_option Elab.async false
set_option linter.all false
set_option maxRecDepth 100000
set_option maxHeartbeats 1000000
namespace Sm
open PySem PySem.Spec PyProof.Rows L2

/-! ### several new things at once -/
/-- values and new lists (at As) -/
inductive MReps (c : Cf) (Ψ : Wd) (H0 H : Hp) : List V → List Slot → List Addr → Prop
  | nil : MReps c Ψ H0 H [] [] []
  | val {v : V} {d : D} {vs : List V} {ss : List Slot} {As : List Addr} (h : Rep c Ψ v d) (t : MReps c Ψ H0 H vs ss As) : MReps c Ψ H0 H (v :: vs) (.val d :: ss) As
  | own {a : Addr} {xs : List V} {ds : List D} {vs : List V} {ss : List Slot} {As : List Addr} (h : H a = some (.lst xs)) (l : xs.length ≤ LIM) (r : Reps c Ψ xs ds) (p : Ψ.fz a = none) (f : ¬ Foot Ψ a) (n : H0 a = none) (na : a ∉ As)
      (t : MReps c Ψ H0 H vs ss As) : MReps c Ψ H0 H (.ref a :: vs) (.own ds :: ss) (a :: As)
  | ownD {a : Addr} {vs : List V} {ss : List Slot} {As : List Addr} (h : H a = some (.dK [])) (p : Ψ.fz a = none) (f : ¬ Foot Ψ a) (n : H0 a = none) (na : a ∉ As)
      (t : MReps c Ψ H0 H vs ss As) : MReps c Ψ H0 H (.ref a :: vs) (.ownD [] :: ss) (a :: As)
def rAM (c : Cf) (W : L2.St → XK) (m : Env → M (List Slot)) : TA := fun σ H Q => ∃ Ψ ρ S F, StoOk c Ψ H S ∧ EnvOk c Ψ σ ρ H F ∧
  Post c (W σ) Ψ H (m ρ S) fun ss S' => ∀ Ψ' vs As H', Ext Ψ H Ψ' H' → StoOk c Ψ' H' S' → MReps c Ψ' H H' vs ss As → Q vs H'
structure SAM (c : Cf) (X : Cx) (W : L2.St → XK) (es : List Expr) (m : Env → M (List Slot)) : Prop where
  k : X.K = c.K
  p : PA X es (rAM c W m)
section
variable {c : Cf} {X : Cx} {W : L2.St → XK} {e : Expr} {es : List Expr}
theorem MReps.mem {Ψ : Wd} {H0 H : Hp} {vs : List V} {ss : List Slot} {As : List Addr} (h : MReps c Ψ H0 H vs ss As) : ∀ b ∈ As, H0 b = none ∧ Ψ.fz b = none ∧ ¬ Foot Ψ b ∧ H b ≠ none := by
  induction h with
  | nil => intro b hb; cases hb
  | val _ _ ih => exact ih
  | own h l r p f n na t ih =>
    intro b hb
    rcases List.mem_cons.mp hb with rfl | hb
    · exact ⟨n, p, f, by rw [h]; exact fun z => nomatch z⟩
    · exact ih b hb
  | ownD h p f n na t ih =>
    intro b hb
    rcases List.mem_cons.mp hb with rfl | hb
    · exact ⟨n, p, f, by rw [h]; exact fun z => nomatch z⟩
    · exact ih b hb
/-- seen from further back -/
theorem MReps.back {Ψ : Wd} {H00 H0 H : Hp} {vs : List V} {ss : List Slot} {As : List Addr} (h : MReps c Ψ H0 H vs ss As) (k : ∀ b, H0 b = none → H00 b = none) : MReps c Ψ H00 H vs ss As := by
  induction h with
  | nil => exact .nil
  | val h _ ih => exact .val h ih
  | own h l r p f n na t ih => exact .own h l r p f (k _ n) na ih
  | ownD h p f n na t ih => exact .ownD h p f (k _ n) na ih
theorem sam_nil (k : X.K = c.K) : SAM c X W [] (fun _ => rt []) := ⟨k, PA.imp pa_nil fun σ H Q ⟨Ψ, ρ, S, F, so, eo, q⟩ => q Ψ [] [] H (Ext.refl _ _) so .nil⟩
theorem sam_val {m : Env → M D} {ms : Env → M (List Slot)} (h : SE c X W e m) (t : SAM c X W es ms) (hs : starEach (e :: es) X.env = (false, eval e X.env) :: starEach es X.env := by rfl) :
    SAM c X W (e :: es) (fun ρ => bd (m ρ) fun d => bd (ms ρ) fun ss => rt (.val d :: ss)) := by
  refine ⟨h.k, PA.imp (pa_cons h.p t.p hs) fun σ H Q ⟨Ψ, ρ, S, F, so, eo, q⟩ => ⟨Ψ, ρ, S, F, so, eo, q.bd.mono fun d S1 q1 Ψ1 x H1 e1 so1 r1 => ?_⟩⟩
  refine ⟨Ψ1, ρ, S1, F, so1, eo.ext e1, (q1.ext e1).bd.mono fun ss S2 q2 Ψ2 xs As H2 e2 so2 r2 => ?_⟩
  exact q2 Ψ2 _ As H2 (e1.trans e2) so2 (.val (r1.mono e2.le) (r2.back e1.dom))
theorem sam_own {m : Env → M (List D)} {ms : Env → M (List Slot)} (h : SN c X W e m) (t : SAM c X W es ms) (hs : starEach (e :: es) X.env = (false, eval e X.env) :: starEach es X.env := by rfl) :
    SAM c X W (e :: es) (fun ρ => bd (m ρ) fun ds => bd (ms ρ) fun ss => rt (.own ds :: ss)) := by
  refine ⟨h.k, PA.imp (pa_cons h.p t.p hs) fun σ H Q ⟨Ψ, ρ, S, F, so, eo, q⟩ => ⟨Ψ, ρ, S, F, so, eo, q.bd.mono fun ds S1 q1 Ψ1 a vs H1 e1 so1 h1 l1 r1 p1 f1 n1 => ?_⟩⟩
  refine ⟨Ψ1, ρ, S1, F, so1, eo.ext e1, (q1.ext e1).bd.mono fun ss S2 q2 Ψ2 xs As H2 e2 so2 r2 => ?_⟩
  have fr := e2.free p1 f1 (by rw [h1]; exact fun z => nomatch z)
  refine q2 Ψ2 _ (a :: As) H2 (e1.trans e2) so2 (.own (e2.keep _ _ h1 f1) l1 (r1.mono e2.le) fr.1 fr.2 n1 (fun z => ?_) (r2.back e1.dom))
  have := (r2.mem a z).1
  rw [h1] at this
  cases this
def setsM : Env → List Nat → List Slot → Env
  | ρ, i :: is, s :: ss => setsM (ρ.set i s) is ss
  | ρ, _, _ => ρ
theorem Gd.setsM {B : Bs} {Ψ : Wd} {H0 H : Hp} {S : Sto} (bk : ∀ b, H0 b = none → B.H b = none) {vs : List V} {ss : List Slot} {As : List Addr} (h : MReps c Ψ H0 H vs ss As) :
    ∀ {is : List Nat} {σ : L2.St} {ρ : Env} {F : Nat → List Addr}, Gd c B Ψ σ ρ H F S → (∀ b ∈ As, ∀ j, b ∉ F j) → ∃ F', Gd c B Ψ (setsS σ is vs) (Sm.setsM ρ is ss) H F' S := by
  induction h with
  | nil => intro is σ ρ F g _; cases is <;> exact ⟨F, g⟩
  | val h t ih =>
    intro is σ ρ F g hF
    cases is with
    | nil => exact ⟨F, g⟩
    | cons i is =>
      obtain ⟨F', g'⟩ := ih (is := is) (g.setV i h) fun b hb j hj => hF b hb j (off_sub hj).1
      exact ⟨F', g'⟩
  | own h l r p f n na t ih =>
    intro is σ ρ F g hF
    cases is with
    | nil => exact ⟨F, g⟩
    | cons i is =>
      rename_i a xs ds vs ss As
      have hn : H a ≠ none := by rw [h]; exact fun z => nomatch z
      by_cases hi : i < ρ.length
      · have g1 : Gd c B Ψ (σ.set i (some (.ref a))) (ρ.set i (.own ds)) H (onF F i [a]) S := by
          refine ⟨g.x, g.so, g.eo.setO i hi ⟨a, xs, rfl, rfl, h, l, r⟩ (fun b hb => ?_) (fun b hb j _ hj => ?_), fun j b hb => ?_, fun k fs hk => ?_⟩
          · rcases List.mem_singleton.mp hb with rfl
            exact ⟨p, f, hn⟩
          · rcases List.mem_singleton.mp hb with rfl
            exact hF b List.mem_cons_self j hj
          · by_cases z : j = i
            · subst z
              rw [onF_eq] at hb
              rcases List.mem_singleton.mp hb with rfl
              exact bk _ n
            · rw [onF_ne z] at hb
              exact g.fr j b hb
          · rcases set0 hk with ⟨_, z⟩ | ⟨n, z⟩
            · cases z
            · rw [List.getElem?_set_ne n]; exact g.me k fs z
        obtain ⟨F', g'⟩ := ih (is := is) g1 fun b hb j hj => by
          by_cases z : j = i
          · subst z
            rw [onF_eq] at hj
            rcases List.mem_singleton.mp hj with rfl
            exact na hb
          · rw [onF_ne z] at hj
            exact hF b (List.mem_cons_of_mem _ hb) j hj
        exact ⟨F', g'⟩
      · have hl := g.eo.len
        obtain ⟨F', g'⟩ := ih (is := is) g fun b hb j hj => hF b (List.mem_cons_of_mem _ hb) j hj
        refine ⟨F', ?_⟩
        show Gd c B Ψ (setsS (σ.set i (some (.ref a))) is vs) (Sm.setsM (ρ.set i (.own ds)) is ss) H F' S
        rw [List.set_eq_of_length_le (l := σ) (by omega), List.set_eq_of_length_le (l := ρ) (by omega)]
        exact g'
  | ownD h p f n na t ih =>
    intro is σ ρ F g hF
    cases is with
    | nil => exact ⟨F, g⟩
    | cons i is =>
      rename_i a vs ss As
      have hn : H a ≠ none := by rw [h]; exact fun z => nomatch z
      by_cases hi : i < ρ.length
      · have g1 : Gd c B Ψ (σ.set i (some (.ref a))) (ρ.set i (.ownD [])) H (onF F i [a]) S := by
          refine ⟨g.x, g.so, g.eo.setO i hi ⟨a, [], rfl, rfl, h, rfl, .nil⟩ (fun b hb => ?_) (fun b hb j _ hj => ?_), fun j b hb => ?_, fun k fs hk => ?_⟩
          · rcases List.mem_singleton.mp hb with rfl
            exact ⟨p, f, hn⟩
          · rcases List.mem_singleton.mp hb with rfl
            exact hF b List.mem_cons_self j hj
          · by_cases z : j = i
            · subst z
              rw [onF_eq] at hb
              rcases List.mem_singleton.mp hb with rfl
              exact bk _ n
            · rw [onF_ne z] at hb
              exact g.fr j b hb
          · rcases set0 hk with ⟨_, z⟩ | ⟨n, z⟩
            · cases z
            · rw [List.getElem?_set_ne n]; exact g.me k fs z
        obtain ⟨F', g'⟩ := ih (is := is) g1 fun b hb j hj => by
          by_cases z : j = i
          · subst z
            rw [onF_eq] at hj
            rcases List.mem_singleton.mp hj with rfl
            exact na hb
          · rw [onF_ne z] at hj
            exact hF b (List.mem_cons_of_mem _ hb) j hj
        exact ⟨F', g'⟩
      · have hl := g.eo.len
        obtain ⟨F', g'⟩ := ih (is := is) g fun b hb j hj => hF b (List.mem_cons_of_mem _ hb) j hj
        refine ⟨F', ?_⟩
        show Gd c B Ψ (setsS (σ.set i (some (.ref a))) is vs) (Sm.setsM (ρ.set i (.ownD [])) is ss) H F' S
        rw [List.set_eq_of_length_le (l := σ) (by omega), List.set_eq_of_length_le (l := ρ) (by omega)]
        exact g'
end
section
variable {c : Cf} {X : Cx} {W : XK} {pos pos' apos cpos : Pos} {i j l : Nat} {x y z : Str} {a b d e : Expr}
theorem MReps.len {Ψ : Wd} {H0 H : Hp} {vs : List V} {ss : List Slot} {As : List Addr} (h : MReps c Ψ H0 H vs ss As) : vs.length = ss.length := by
  induction h with
  | nil => rfl
  | val _ _ ih => rw [List.length_cons, List.length_cons, ih]
  | own _ _ _ _ _ _ _ _ ih => rw [List.length_cons, List.length_cons, ih]
  | ownD _ _ _ _ _ _ ih => rw [List.length_cons, List.length_cons, ih]
theorem ss_par {ma : Env → M (List Slot)} {px py pt : Pos} {kt k2 pt2} (ha : SAM c X (cW W) [a, b] ma) (hN : X.N.Nodup) (hi : X.N[i]? = some x := by rfl) (hj : X.N[j]? = some y := by rfl) (hij : i ≠ j := by decide)
    (hx : X.env.scope.names.lookup x = some .local := by rfl) (hy : X.env.scope.names.lookup y = some .local := by rfl)
    (hw : swappedStores [.Tuple [.Name x px, .Name y py] kt pt] (.Tuple [a, b] k2 pt2) X.env = pure (some [x, y]) := by rfl)
    (hs : swapsWithSole [.Tuple [.Name x px, .Name y py] kt pt] (.Tuple [a, b] k2 pt2) pos.line X.env = pure false := by rfl) (hc : X.calm = true := by rfl) :
    SS c X W (.Assign [.Tuple [.Name x px, .Name y py] kt pt] (.Tuple [a, b] k2 pt2) pos) (fun ρ => bd (ma ρ) fun ss => fun S => if ss.length = 2 then .ok (.nx (setsM ρ [i, j] ss)) S else .stuck) := by
  refine ⟨ha.k, PS.imp (ps_par hc hN hi hj hij hx hy ha.p hw hs) fun D σ H ⟨B, Ψ, ρ, S, F, g, q⟩ => ⟨Ψ, ρ, S, F, g.so, g.eo, (q.bd.ext g.x).mono fun ss S1 q1 Ψ1 vs As H1 x1 s1 r1 => ?_⟩⟩
  split at q1
  · rename_i h2
    obtain ⟨F', g'⟩ := Gd.setsM (is := [i, j]) (fun b hb => g.x.dom b hb) r1 (g.ext x1 s1) fun b hb k hk => (g.eo.priv k b hk).2.2 (r1.mem b hb).1
    have hv : vs.length = 2 := by rw [r1.len]; exact h2
    match vs, hv with
    | [u, v], _ => exact ⟨u, v, rfl, q1 Ψ1 _ H1 F' g'⟩
  · exact q1.elim
theorem ss_par3 {ma : Env → M (List Slot)} {px py pz pt : Pos} {kt k2 pt2} (ha : SAM c X (cW W) [a, b, d] ma) (hN : X.N.Nodup) (hi : X.N[i]? = some x := by rfl) (hj : X.N[j]? = some y := by rfl) (hl : X.N[l]? = some z := by rfl) (hij : i ≠ j := by decide) (hil : i ≠ l := by decide) (hjl : j ≠ l := by decide)
    (hx : X.env.scope.names.lookup x = some .local := by rfl) (hy : X.env.scope.names.lookup y = some .local := by rfl) (hz : X.env.scope.names.lookup z = some .local := by rfl)
    (hw : swappedStores [.Tuple [.Name x px, .Name y py, .Name z pz] kt pt] (.Tuple [a, b, d] k2 pt2) X.env = pure (some [x, y, z]) := by rfl)
    (hs : swapsWithSole [.Tuple [.Name x px, .Name y py, .Name z pz] kt pt] (.Tuple [a, b, d] k2 pt2) pos.line X.env = pure false := by rfl) (hc : X.calm = true := by rfl) :
    SS c X W (.Assign [.Tuple [.Name x px, .Name y py, .Name z pz] kt pt] (.Tuple [a, b, d] k2 pt2) pos) (fun ρ => bd (ma ρ) fun ss => fun S => if ss.length = 3 then .ok (.nx (setsM ρ [i, j, l] ss)) S else .stuck) := by
  refine ⟨ha.k, PS.imp (ps_par3 hc hN hi hj hl hij hil hjl hx hy hz ha.p hw hs) fun D σ H ⟨B, Ψ, ρ, S, F, g, q⟩ => ⟨Ψ, ρ, S, F, g.so, g.eo, (q.bd.ext g.x).mono fun ss S1 q1 Ψ1 vs As H1 x1 s1 r1 => ?_⟩⟩
  split at q1
  · rename_i h2
    obtain ⟨F', g'⟩ := Gd.setsM (is := [i, j, l]) (fun b hb => g.x.dom b hb) r1 (g.ext x1 s1) fun b hb k hk => (g.eo.priv k b hk).2.2 (r1.mem b hb).1
    have hv : vs.length = 3 := by rw [r1.len]; exact h2
    match vs, hv with
    | [u, v, w], _ => exact ⟨u, v, w, rfl, q1 Ψ1 _ H1 F' g'⟩
  · exact q1.elim

/-! ### the own list at place i -/
def ownAt (ρ : Env) (i : Nat) : M (List D) := fun S => match ρ[i]? with
  | some (.own ds) => .ok ds S
  | _ => .stuck
theorem own_at {B : Bs} {Ψ : Wd} {σ : L2.St} {ρ : Env} {H : Hp} {F : Nat → List Addr} {S : Sto} {α : Type} {R : α → Sto → Prop} {f : List D → M α} {V0 : XK} {Ψ0 : Wd} {H0 : Hp} (g : Gd c B Ψ σ ρ H F S) (q : Post c V0 Ψ0 H0 (bd (ownAt ρ i) f S) R) :
    ∃ ds a vs, ρ[i]? = some (.own ds) ∧ a ∈ F i ∧ F i = [a] ∧ σ[i]? = some (some (.ref a)) ∧ H a = some (.lst vs) ∧ vs.length ≤ LIM ∧ Reps c Ψ vs ds ∧ Post c V0 Ψ0 H0 (f ds S) R := by
  have q' := q.bd
  unfold ownAt at q'
  split at q'
  · rename_i ds hs
    obtain ⟨a, vs, hF, h1, h2, l, h3⟩ := g.eo.slot i _ hs
    exact ⟨ds, a, vs, hs, by rw [hF]; simp, hF, h1, h2, l, h3, q'⟩
  · exact q'.elim
theorem Gd.setOwn {B : Bs} {Ψ : Wd} {σ : L2.St} {ρ : Env} {H : Hp} {F : Nat → List Addr} {S : Sto} (g : Gd c B Ψ σ ρ H F S) {ds es : List D} {a : Addr} {ws : List V} (hs : ρ[i]? = some (.own ds)) (hF : F i = [a]) (h1 : σ[i]? = some (some (.ref a))) (l : ws.length ≤ LIM) (r : Reps c Ψ ws es) :
    Gd c B Ψ σ (ρ.set i (.own es)) (L2.upd H a (.lst ws)) F S :=
  g.upd hs (by rw [hF]; simp) ⟨a, ws, hF, h1, upd_same, l, r⟩ (fun _ _ z => nomatch z)
/-- x.append(e) -/
theorem ss_append {m : Env → M D} {px : Pos} (h : SE c X (cW W) e m) (hN : X.N[i]? = some x := by rfl) (hv : Vis X.env.scope x := by first | exact Or.inl rfl | exact Or.inr (Or.inl rfl) | exact Or.inr (Or.inr rfl)) (hd : (x == ("__debug__" : Str)) = false := by decide)
    (hcd : (x == ("__classdict__" : Str)) = false := by decide) (hbase : attributeBase (.Name x px) "append" X.env (eval (.Name x px) X.env) = eval (.Name x px) X.env := by rfl)
    (hfew : ((backTo cpos (starEach [e] X.env)).all (fun x => !x.1) && (backToKw cpos (keywordEach [] X.env)).all (fun x => x.1.isSome)
      && decide ([e].length + ([] : List Keyword).length + (if ([] : List Keyword).isEmpty then 0 else 1) < 30)) = true := by rfl)
    (hline : (apos.endLine == cpos.line) = true := by rfl) (hs : starEach [e] X.env = (false, eval e X.env) :: starEach [] X.env := by rfl) (hplain : (backTo cpos (starEach [] X.env)).any (·.1) = false := by rfl)
    (hsw : swapsWith (.Call (.Attribute (.Name x px) "append" apos) [e] [] cpos) none pos.line X.env = pure false := by rfl) :
    SS c X W (.Expr (.Call (.Attribute (.Name x px) "append" apos) [e] [] cpos) pos) (fun ρ => bd (ownAt ρ i) fun ds => bd (m ρ) fun d => fun S => if ds.length < LIM then .ok (.nx (ρ.set i (.own (ds ++ [d])))) S else .stuck) := by
  refine ⟨h.k, PS.imp (ps_expr (pe_bm PySem.F.plainAttrs_list PySem.F.slot_list_append PySem.F.type_list_append mt_append (pe_var hN hv hd hcd) (pa_cons h.p pa_nil hs) hbase hfew hline hs hplain) hsw) fun D σ H ⟨B, Ψ, ρ, S, F, g, q⟩ => ?_⟩
  obtain ⟨ds, a, vs, hr, ha, hF, h1, h2, l, r, q⟩ := own_at g q
  refine ⟨.ref a, h1, .inl ⟨rfl, vs, SqL.of h2⟩, Ψ, ρ, S, F, g.so, g.eo, (q.bd.ext g.x).mono fun d S1 q1 Ψ1 v H1 x1 s1 r1 => ?_⟩
  have h2' : H1 a = some (.lst vs) := x1.keep _ _ h2 (g.eo.priv i a ha).2.1
  split at q1
  · rename_i hl
    refine ⟨a, vs, v, rfl, rfl, h2', lim_lt (by rw [r.length]; exact hl), ?_⟩
    exact q1 Ψ1 σ _ F ((g.ext x1 s1).setOwn hr hF h1 (by rw [List.length_append, r.length]; exact hl) ((r.mono x1.le).app (.cons r1 .nil)))
  · exact q1.elim
/-- x.insert(k, e) -/
theorem ss_insert {m : Env → M (List D)} {px : Pos} {e1 e2 : Expr} (h : SA c X (cW W) [e1, e2] m) (hN : X.N[i]? = some x := by rfl) (hv : Vis X.env.scope x := by first | exact Or.inl rfl | exact Or.inr (Or.inl rfl) | exact Or.inr (Or.inr rfl)) (hd : (x == ("__debug__" : Str)) = false := by decide)
    (hcd : (x == ("__classdict__" : Str)) = false := by decide) (hbase : attributeBase (.Name x px) "insert" X.env (eval (.Name x px) X.env) = eval (.Name x px) X.env := by rfl)
    (hfew : ((backTo cpos (starEach [e1, e2] X.env)).all (fun x => !x.1) && (backToKw cpos (keywordEach [] X.env)).all (fun x => x.1.isSome)
      && decide ([e1, e2].length + ([] : List Keyword).length + (if ([] : List Keyword).isEmpty then 0 else 1) < 30)) = true := by rfl)
    (hline : (apos.endLine == cpos.line) = true := by rfl) (hs : starEach [e1, e2] X.env = (false, eval e1 X.env) :: starEach [e2] X.env := by rfl) (hplain : (backTo cpos (starEach [e2] X.env)).any (·.1) = false := by rfl)
    (hsw : swapsWith (.Call (.Attribute (.Name x px) "insert" apos) [e1, e2] [] cpos) none pos.line X.env = pure false := by rfl) :
    SS c X W (.Expr (.Call (.Attribute (.Name x px) "insert" apos) [e1, e2] [] cpos) pos) (fun ρ => bd (ownAt ρ i) fun ds => bd (m ρ) fun as => fun S => match as with
      | [.int k, d] => if ds.length < LIM ∧ 0 ≤ k ∧ k < 100000 then .ok (.nx (ρ.set i (.own (ds.take k.toNat ++ [d] ++ ds.drop k.toNat)))) S else .stuck
      | _ => .stuck) := by
  refine ⟨h.k, PS.imp (ps_expr (pe_bm PySem.F.plainAttrs_list PySem.F.slot_list_insert PySem.F.type_list_insert mt_insert (pe_var hN hv hd hcd) h.p hbase hfew hline hs hplain) hsw) fun D σ H ⟨B, Ψ, ρ, S, F, g, q⟩ => ?_⟩
  obtain ⟨ds, a, vs, hr, ha, hF, h1, h2, l, r, q⟩ := own_at g q
  refine ⟨.ref a, h1, .inl ⟨rfl, vs, SqL.of h2⟩, Ψ, ρ, S, F, g.so, g.eo, (q.bd.ext g.x).mono fun as S1 q1 Ψ1 us H1 x1 s1 r1 => ?_⟩
  have h2' : H1 a = some (.lst vs) := x1.keep _ _ h2 (g.eo.priv i a ha).2.1
  split at q1
  · rename_i k d
    split at q1
    · rename_i hl
      cases r1 with
      | cons rk t =>
        cases rk
        cases t with
        | cons rd t =>
          cases t
          rename_i v
          have rr := r.mono x1.le
          refine ⟨a, vs, k, v, rfl, rfl, h2', lim_lt (by rw [r.length]; exact hl.1), hl.2.1, by omega, ?_⟩
          refine q1 Ψ1 σ _ F ((g.ext x1 s1).setOwn hr hF h1 ?_ (((rr.take k.toNat).app (.cons rd .nil)).app (rr.drop k.toNat)))
          have hl1 := hl.1
          have hr1 := r.length
          rw [List.length_append, List.length_append, List.length_take, List.length_drop, List.length_singleton]
          omega
    · exact q1.elim
  · exact q1.elim
/-- x.pop(k) as a value, at the end of an assignment or alone -/
def popM (ρ : Env) (i : Nat) (m : M D) : M (D × Env) := bd (ownAt ρ i) fun ds => bd m fun a => fun S => match a with
  | .int k => if 0 ≤ k ∧ k < 100000 then match ds[k.toNat]? with
      | some d => .ok (d, ρ.set i (.own (ds.eraseIdx k.toNat))) S
      | none => .stuck
    else .stuck
  | _ => .stuck
theorem pop_r {B : Bs} {Ψ : Wd} {σ : L2.St} {ρ : Env} {H : Hp} {F : Nat → List Addr} {S : Sto} {m : Env → M D} {R : D × Env → Sto → Prop} {Q : VK} {K : PySem.W.Frag} (g : Gd c B Ψ σ ρ H F S) (q : Post c W B.wd B.H (popM ρ i (m ρ) S) R)
    (k : ∀ d ρ' S' Ψ' v H', R (d, ρ') S' → Gd c B Ψ' σ ρ' H' F S' → Rep c Ψ' v d → Q v H') : tBM K "list" rPopAt (tVar i) (tCons (rE c (cW W) m) tNil) σ H Q := by
  unfold popM at q
  obtain ⟨ds, a, vs, hr, ha, hF, h1, h2, l, r, q⟩ := own_at g q
  refine ⟨.ref a, h1, .inl ⟨rfl, vs, SqL.of h2⟩, Ψ, ρ, S, F, g.so, g.eo, (q.bd.ext g.x).mono fun b S1 q1 Ψ1 v H1 x1 s1 r1 => ?_⟩
  have h2' : H1 a = some (.lst vs) := x1.keep _ _ h2 (g.eo.priv i a ha).2.1
  split at q1
  · rename_i kk
    split at q1
    · rename_i hk
      split at q1
      · rename_i d hd
        cases r1
        obtain ⟨y, hy, ry⟩ := r.get hd
        have hlt : kk.toNat < vs.length := (List.getElem?_eq_some_iff.mp hy).1
        have hc : kk < (vs.length : Int) := by omega
        refine ⟨a, vs, kk, kk.toNat, y, rfl, rfl, h2', by omega, by omega, seqIndex_of hk.1 hc, hy, ?_⟩
        refine k d _ S1 Ψ1 y _ q1 ((g.ext x1 s1).setOwn hr hF h1 ?_ ((r.mono x1.le).erase kk.toNat)) (ry.mono x1.le)
        exact Nat.le_trans (List.length_eraseIdx_le ..) l
      · exact q1.elim
    · exact q1.elim
  · exact q1.elim
section
variable {px : Pos} {m : Env → M D} {y : Str} {j : Nat}
theorem ss_pop (h : SE c X (cW W) e m) (hN : X.N[i]? = some x := by rfl) (hv : Vis X.env.scope x := by first | exact Or.inl rfl | exact Or.inr (Or.inl rfl) | exact Or.inr (Or.inr rfl)) (hd : (x == ("__debug__" : Str)) = false := by decide)
    (hcd : (x == ("__classdict__" : Str)) = false := by decide) (hbase : attributeBase (.Name x px) "pop" X.env (eval (.Name x px) X.env) = eval (.Name x px) X.env := by rfl)
    (hfew : ((backTo cpos (starEach [e] X.env)).all (fun x => !x.1) && (backToKw cpos (keywordEach [] X.env)).all (fun x => x.1.isSome)
      && decide ([e].length + ([] : List Keyword).length + (if ([] : List Keyword).isEmpty then 0 else 1) < 30)) = true := by rfl)
    (hline : (apos.endLine == cpos.line) = true := by rfl) (hs : starEach [e] X.env = (false, eval e X.env) :: starEach [] X.env := by rfl) (hplain : (backTo cpos (starEach [] X.env)).any (·.1) = false := by rfl)
    (hsw : swapsWith (.Call (.Attribute (.Name x px) "pop" apos) [e] [] cpos) none pos.line X.env = pure false := by rfl) :
    SS c X W (.Expr (.Call (.Attribute (.Name x px) "pop" apos) [e] [] cpos) pos) (fun ρ => bd (popM ρ i (m ρ)) fun r => rt (.nx r.2)) := by
  refine ⟨h.k, PS.imp (ps_expr (pe_bm PySem.F.plainAttrs_list PySem.F.slot_list_pop PySem.F.type_list_pop mt_popAt (pe_var hN hv hd hcd) (pa_cons h.p pa_nil hs) hbase hfew hline hs hplain) hsw) fun D σ H ⟨B, Ψ, ρ, S, F, g, q⟩ => ?_⟩
  exact pop_r g q.bd fun d ρ' S' Ψ' v H' hR g' r' => hR Ψ' σ H' F g'
theorem ss_setPop {py : Pos} (h : SE c X (cW W) e m) (hNd : X.N.Nodup) (hj : X.N[j]? = some y := by rfl) (hy : Loc X.env.scope y := by first | exact Or.inl rfl | exact Or.inr rfl) (hN : X.N[i]? = some x := by rfl) (hv : Vis X.env.scope x := by first | exact Or.inl rfl | exact Or.inr (Or.inl rfl) | exact Or.inr (Or.inr rfl)) (hd : (x == ("__debug__" : Str)) = false := by decide)
    (hcd : (x == ("__classdict__" : Str)) = false := by decide) (hbase : attributeBase (.Name x px) "pop" X.env (eval (.Name x px) X.env) = eval (.Name x px) X.env := by rfl)
    (hfew : ((backTo cpos (starEach [e] X.env)).all (fun x => !x.1) && (backToKw cpos (keywordEach [] X.env)).all (fun x => x.1.isSome)
      && decide ([e].length + ([] : List Keyword).length + (if ([] : List Keyword).isEmpty then 0 else 1) < 30)) = true := by rfl)
    (hline : (apos.endLine == cpos.line) = true := by rfl) (hs : starEach [e] X.env = (false, eval e X.env) :: starEach [] X.env := by rfl) (hplain : (backTo cpos (starEach [] X.env)).any (·.1) = false := by rfl)
    (hsw : swapsWith (.Call (.Attribute (.Name x px) "pop" apos) [e] [] cpos) (some (.Name y py)) pos.line X.env = pure false := by rfl) (hf : X.fn y = true ∨ X.env.scope.names.lookup y = some .local := by first | exact .inl rfl | exact .inr rfl) :
    SS c X W (.Assign [.Name y py] (.Call (.Attribute (.Name x px) "pop" apos) [e] [] cpos) pos) (fun ρ => bd (popM ρ i (m ρ)) fun r => rt (.nx (r.2.set j (.val r.1)))) := by
  refine ⟨h.k, PS.imp (ps_set hNd hj hy (pe_bm PySem.F.plainAttrs_list PySem.F.slot_list_pop PySem.F.type_list_pop mt_popAt (pe_var hN hv hd hcd) (pa_cons h.p pa_nil hs) hbase hfew hline hs hplain) hsw hf) fun D σ H ⟨B, Ψ, ρ, S, F, g, q⟩ => ?_⟩
  exact pop_r g q.bd fun d ρ' S' Ψ' v H' hR g' r' => hR Ψ' _ H' _ (g'.setV j r')
end
end
end Sm

/-! text: Sim11 -/
set_option Elab.async false
set_option linter.all false
set_option maxRecDepth 100000
set_option maxHeartbeats 1000000
namespace Sm
open PySem PySem.Spec PyProof.Rows L2

/-! ### shared lists: changed, made -/
theorem Ext.updO {Ψ : Wd} {H : Hp} {n : Nat} {p : Addr × Addr} {o : HO} (h : Ψ.sh[n]? = some p) (hp : H p.1 ≠ none) : Ext Ψ H Ψ (L2.upd H p.1 o) where
  le := Le.refl _
  dom := fun b hb => by
    by_cases e : b = p.1
    · subst e; rw [upd_same] at hb; cases hb
    · rw [upd_ne e] at hb; exact hb
  nphi := fun _ _ h => .inl h
  nmu := fun _ h => .inl h
  keep := fun b u hu f => by
    rw [upd_ne (fun e => f (.inl ⟨n, p, h, .inl e⟩))]
    exact hu
theorem StoOk.updO {c : Cf} {Ψ : Wd} {H : Hp} {S : Sto} {n : Nat} {ds es : List D} {p : Addr × Addr} {ws : List V} (s : StoOk c Ψ H S) (h : Ψ.sh[n]? = some p) (hs : S[n]? = some (.lst ds)) (l : ws.length ≤ LIM) (r : Reps c Ψ ws es) :
    StoOk c Ψ (L2.upd H p.1 (.lst ws)) (S.set n (.lst es)) where
  phi := fun a o e => by
    have hn := (s.off n p _ h hs rfl).1
    rw [upd_ne (ne_of_none e hn)]
    exact s.phi a o e
  off := fun i q o h1 h2 h3 => by
    by_cases z : i = n
    · subst z
      rw [h] at h1; cases h1
      exact s.off i p _ h hs rfl
    · rw [List.getElem?_set_ne (Ne.symm z)] at h2
      exact s.off i q o h1 h2 h3
  offT := s.offT
  nd := s.nd
  len := by rw [List.length_set]; exact s.len
  tbc := s.tbc
  tab := fun t ht => let ⟨ps, h1, h2⟩ := s.tab t ht; ⟨ps, by rw [upd_ne (s.tnd t ht n p h).1.symm]; exact h1, h2⟩
  tnd := s.tnd
  obj := fun i o e => by
    by_cases z : i = n
    · subst z
      have hl : i < S.length := (List.getElem?_eq_some_iff.mp hs).1
      rw [List.getElem?_set_self hl] at e
      cases e
      obtain ⟨p', h1, vs, _, h3, _, _⟩ := s.obj i _ hs
      rw [h] at h1; cases h1
      exact ⟨p, h, ws, upd_same, h3, l, r⟩
    · rw [List.getElem?_set_ne (Ne.symm z)] at e
      obtain ⟨q, h1, h2⟩ := s.obj i o e
      obtain ⟨n1, n2, n3, n4⟩ := s.nd i n q p h1 h z
      refine ⟨q, h1, ?_⟩
      cases o with
      | lst ds => obtain ⟨vs, x1, x2, x3, x4⟩ := h2; exact ⟨vs, by rw [upd_ne n1]; exact x1, x2, x3, x4⟩
      | dct ks => obtain ⟨es, x1, x2, x4⟩ := h2; exact ⟨es, by rw [upd_ne n1]; exact x1, x2, x4⟩
      | dctF ks => exact h2
      | ins k fs =>
        obtain ⟨vs, x1, x2, x3, x4⟩ := h2
        refine ⟨vs, Slt.keep x1 fun b hb u hu => ?_, x2, by rw [upd_ne n3]; exact x3, x4⟩
        rcases hb with rfl | rfl
        · rw [upd_ne n1]; exact hu
        · rw [upd_ne n3]; exact hu
def Wd.share (Ψ : Wd) (a : Addr) : Wd := ⟨Ψ.fz, Ψ.sh ++ [(a, a)], Ψ.tb⟩
theorem share_foot {Ψ : Wd} {a b : Addr} (h : Foot (Ψ.share a) b) : Foot Ψ b ∨ b = a := by
  rcases Or.symm h with h | ⟨n, p, h1, h2⟩
  · exact .inl (.inr h)
  have h1' : (Ψ.sh ++ [(a, a)])[n]? = some p := h1
  by_cases z : n < Ψ.sh.length
  · rw [List.getElem?_append_left z] at h1'
    exact .inl (.inl ⟨n, p, h1', h2⟩)
  · rw [List.getElem?_append_right (by omega)] at h1'
    have hn : n - Ψ.sh.length = 0 := by
      have := (List.getElem?_eq_some_iff.mp h1').1
      simpa using this
    rw [hn] at h1'
    cases h1'
    rcases h2 with h2 | h2 <;> exact .inr h2
theorem Le.share {Ψ : Wd} {a : Addr} : Le Ψ (Ψ.share a) := ⟨fun _ _ h => h, fun n p h => by
  show (Ψ.sh ++ [(a, a)])[n]? = _
  rw [List.getElem?_append_left (List.getElem?_eq_some_iff.mp h).1]
  exact h, rfl⟩
theorem Ext.share {Ψ : Wd} {H : Hp} {Ψ' : Wd} {H' : Hp} {a : Addr} (x : Ext Ψ H Ψ' H') (n : H a = none) : Ext Ψ H (Ψ'.share a) H' :=
  ⟨x.le.trans Le.share, x.dom, x.nphi, fun b f => by
    rcases share_foot f with f | rfl
    · exact x.nmu b f
    · exact .inr n, x.keep⟩
theorem StoOk.share {c : Cf} {Ψ : Wd} {H : Hp} {S : Sto} {a : Addr} {vs : List V} {ds : List D} (s : StoOk c Ψ H S) (h : H a = some (.lst vs)) (p : Ψ.fz a = none) (f : ¬ Foot Ψ a) (l : vs.length ≤ LIM) (r : Reps c Ψ vs ds) : StoOk c (Ψ.share a) H (S ++ [.lst ds]) where
  phi := s.phi
  off := fun n q o h1 h2 h3 => by
    by_cases z : n < S.length
    · rw [List.getElem?_append_left z] at h2
      have h1' : (Ψ.sh ++ [(a, a)])[n]? = some q := h1
      rw [List.getElem?_append_left (by rw [s.len]; exact z)] at h1'
      exact s.off n q o h1' h2 h3
    · have h1' : (Ψ.sh ++ [(a, a)])[n]? = some q := h1
      rw [List.getElem?_append_right (by rw [s.len]; omega)] at h1'
      have hn : n - Ψ.sh.length = 0 := by
        have := (List.getElem?_eq_some_iff.mp h1').1
        simpa using this
      rw [hn] at h1'
      cases h1'
      exact ⟨p, p⟩
  offT := s.offT
  nd := fun i j q1 q2 h1 h2 ne => by
    have key : ∀ (i : Nat) (q : Addr × Addr), (Ψ.share a).sh[i]? = some q → (Ψ.sh[i]? = some q) ∨ (i = Ψ.sh.length ∧ q = (a, a)) := fun i q e => by
      have e' : (Ψ.sh ++ [(a, a)])[i]? = some q := e
      by_cases z : i < Ψ.sh.length
      · rw [List.getElem?_append_left z] at e'; exact .inl e'
      · rw [List.getElem?_append_right (by omega)] at e'
        have hn : i - Ψ.sh.length = 0 := by
          have := (List.getElem?_eq_some_iff.mp e').1
          simpa using this
        rw [hn] at e'
        exact .inr ⟨by omega, (Option.some.inj e').symm⟩
    rcases key i q1 h1 with k1 | ⟨k1, rfl⟩ <;> rcases key j q2 h2 with k2 | ⟨k2, rfl⟩
    · exact s.nd i j q1 q2 k1 k2 ne
    · have g1 : q1.1 ≠ a := fun z => f (.inl ⟨i, q1, k1, .inl z.symm⟩)
      have g2 : q1.2 ≠ a := fun z => f (.inl ⟨i, q1, k1, .inr z.symm⟩)
      exact ⟨g1, g1, g2, g2⟩
    · have g1 : a ≠ q2.1 := fun z => f (.inl ⟨j, q2, k2, .inl z⟩)
      have g2 : a ≠ q2.2 := fun z => f (.inl ⟨j, q2, k2, .inr z⟩)
      exact ⟨g1, g2, g1, g2⟩
    · omega
  len := by
    show (Ψ.sh ++ [(a, a)]).length = _
    rw [List.length_append, List.length_append, s.len]; rfl
  tbc := s.tbc
  tab := s.tab
  tnd := fun t ht n q hq => by
    have e' : (Ψ.sh ++ [(a, a)])[n]? = some q := hq
    by_cases z : n < Ψ.sh.length
    · rw [List.getElem?_append_left z] at e'; exact s.tnd t ht n q e'
    · rw [List.getElem?_append_right (by omega)] at e'
      have hn : n - Ψ.sh.length = 0 := by
        have := (List.getElem?_eq_some_iff.mp e').1
        simpa using this
      rw [hn] at e'
      cases e'
      have hne : a ≠ t.1 := fun z => f (.inr ⟨t.2, by rw [z]; exact ht⟩)
      exact ⟨hne, hne⟩
  obj := fun n o e => by
    by_cases z : n < S.length
    · rw [List.getElem?_append_left z] at e
      obtain ⟨q, h1, h2⟩ := s.obj n o e
      refine ⟨q, Le.share.mu n q h1, ?_⟩
      cases o with
      | lst ds => obtain ⟨vs, x1, x2, x3, x4⟩ := h2; exact ⟨vs, x1, x2, x3, x4.mono Le.share⟩
      | dct ks => obtain ⟨es, x1, x2, x4⟩ := h2; exact ⟨es, x1, x2, x4.mono Le.share⟩
      | dctF ks => obtain ⟨od, es, x1, x2, x4⟩ := h2; exact ⟨od, es, x1, x2, x4.mono Le.share⟩
      | ins k fs => obtain ⟨vs, x1, x2, x3, x4⟩ := h2; exact ⟨vs, x1, x2, x3, x4.mono Le.share⟩
    · rw [List.getElem?_append_right (by omega)] at e
      have hn : n - S.length = 0 := by
        have := (List.getElem?_eq_some_iff.mp e).1
        simpa using this
      rw [hn] at e
      cases e
      refine ⟨(a, a), ?_, vs, h, rfl, l, r.mono Le.share⟩
      show (Ψ.sh ++ [(a, a)])[n]? = _
      have hl := s.len
      have : n = Ψ.sh.length := by omega
      rw [this, List.getElem?_append_right (Nat.le_refl _), Nat.sub_self]
      rfl
section
variable {c : Cf} {X : Cx} {W : XK} {pos pos' apos cpos : Pos} {i j l : Nat} {x y z : Str} {a b d e : Expr}
/-- a[k] = v, a shared list or the frame's own -/
def setAt (ρ : Env) (i : Nat) (k : Int) (v : D) : M Out := fun S => match ρ[i]? with
  | some (.val (.ref n)) => match S[n]? with
    | some (.lst ds) => match L2.ixN ds.length k with
      | some j => .ok (.nx ρ) (S.set n (.lst (ds.set j v)))
      | none => .stuck
    | _ => .stuck
  | some (.own ds) => match L2.ixN ds.length k with
    | some j => .ok (.nx (ρ.set i (.own (ds.set j v)))) S
    | none => .stuck
  | _ => .stuck
theorem ss_setIx {m mk : Env → M D} {px : Pos} {kx : Expr} (h : SE c X (cW W) e m) (hk : SE c X (cW W) kx mk) (hN : X.N[i]? = some x := by rfl) (hv : Vis X.env.scope x := by first | exact Or.inl rfl | exact Or.inr (Or.inl rfl) | exact Or.inr (Or.inr rfl)) (hd : (x == ("__debug__" : Str)) = false := by decide)
    (hcd : (x == ("__classdict__" : Str)) = false := by decide)
    (ha : ∀ v, assign (.Subscript (.Name x px) kx pos') X.env v = (do
      let ov ← holding [v] (eval (.Name x px) X.env)
      let iv ← holding [v, ov] (eval kx X.env)
      standAt pos'
      holding [v, ov, iv] (setItem ov iv v)
      release [v, ov, iv] []) := by intro _; rfl)
    (hs : swapsWithSole [.Subscript (.Name x px) kx pos'] e pos.line X.env = pure false := by rfl) (hw : swappedStores [.Subscript (.Name x px) kx pos'] e X.env = pure none := by rfl)
    (h1 : (assignEach [.Subscript (.Name x px) kx pos'] X.env).map (·.2) = [assign (.Subscript (.Name x px) kx pos') X.env] := by rfl) :
    SS c X W (.Assign [.Subscript (.Name x px) kx pos'] e pos) (fun ρ => bd (m ρ) fun v => bd (opt (match ρ[i]? with
      | some (.val (.ref n)) => some ()
      | some (.own ds) => some ()
      | _ => none)) fun _ => bd (mk ρ) fun k => match k with
      | .int k => setAt ρ i k v
      | _ => stk) := by
  refine ⟨h.k, PS.imp (ps_asg h.p (pg_sub (pe_var hN hv hd hcd) hk.p set_list ha) hs hw h1) fun D σ H ⟨B, Ψ, ρ, S, F, g, q⟩ => ?_⟩
  refine ⟨Ψ, ρ, S, F, g.so, g.eo, (q.bd.ext g.x).mono fun v S1 q1 Ψ1 vv H1 x1 s1 r1 => ?_⟩
  have g1 := g.ext x1 s1
  have q2 := q1.bd
  unfold opt at q2
  split at q2
  · rename_i hsome
    have hslot : ∃ w : Addr, σ[i]? = some (some (.ref w)) := by
      split at hsome
      · rename_i n hs
        obtain ⟨_, w, e1, e2⟩ := g1.eo.slot i _ hs
        cases e2
        exact ⟨_, e1⟩
      · rename_i ds hs
        obtain ⟨w, _, _, e1, _⟩ := g1.eo.slot i _ hs
        exact ⟨w, e1⟩
      · cases hsome
    obtain ⟨w, hw1⟩ := hslot
    refine ⟨.ref w, hw1, Ψ1, ρ, S1, F, g1.so, g1.eo, (Post.bd q2 |>.ext g1.x).mono fun k S2 q3 Ψ2 kv H2 x2 s2 r2 => ?_⟩
    have g2 := g1.ext x2 s2
    split at q3
    · rename_i kk
      cases r2
      unfold setAt at q3
      split at q3
      · rename_i n hs
        split at q3
        · rename_i ds hd
          split at q3
          · rename_i jj hj
            obtain ⟨_, w', e1, e2⟩ := g2.eo.slot i _ hs
            rw [hw1] at e1
            cases e1
            cases e2 with
            | obj hp =>
              obtain ⟨p', h3, vs, h4, h5, h6, h7⟩ := g2.so.obj n _ hd
              rw [hp] at h3; cases h3
              refine ⟨_, vs, kk, jj, rfl, rfl, h4, by rw [h7.length]; exact hj, ?_⟩
              have xx : Ext Ψ2 H2 Ψ2 _ := Ext.updO (o := .lst (vs.set jj vv)) hp (by rw [h4]; exact fun z => nomatch z)
              exact q3 Ψ2 σ _ F (g2.ext xx (g2.so.updO hp hd (by rw [List.length_set]; exact h6) (h7.set (r1.mono x2.le) jj)))
          · exact q3.elim
        · exact q3.elim
      · rename_i ds hs
        split at q3
        · rename_i jj hj
          obtain ⟨a, vs, hF, e1, h4, h6, h7⟩ := g2.eo.slot i _ hs
          rw [hw1] at e1
          cases e1
          refine ⟨w, vs, kk, jj, rfl, rfl, h4, by rw [h7.length]; exact hj, ?_⟩
          exact q3 Ψ2 σ _ F (g2.setOwn hs hF hw1 (by rw [List.length_set]; exact h6) (h7.set (r1.mono x2.le) jj))
        · exact q3.elim
      · exact q3.elim
    · exact q3.elim
  · exact q2.elim

/-! ### own dicts -/
def putL (ks : List (Key × D)) (k : Key) (d : D) : List (Key × D) := if (ks.any fun q => decide (q.1 = k)) = true then ks.map (fun q => if q.1 = k then (q.1, d) else q) else ks ++ [(k, d)]
def getL (ks : List (Key × D)) (k : Key) : Option D := (ks.find? fun q => decide (q.1 = k)).map (·.2)
inductive KReps (c : Cf) (Ψ : Wd) : List (Key × V) → List (Key × D) → Prop
  | nil : KReps c Ψ [] []
  | cons {k : Key} {v : V} {d : D} {kvs : List (Key × V)} {ks : List (Key × D)} (h : Rep c Ψ v d) (t : KReps c Ψ kvs ks) : KReps c Ψ ((k, v) :: kvs) ((k, d) :: ks)
theorem KReps.to {Ψ : Wd} {kvs : List (Key × V)} {ks : List (Key × D)} (h : KReps c Ψ kvs ks) : kvs.map (·.1) = ks.map (·.1) ∧ Reps c Ψ (kvs.map (·.2)) (ks.map (·.2)) := by
  induction h with
  | nil => exact ⟨rfl, .nil⟩
  | cons h t ih => exact ⟨by rw [List.map_cons, List.map_cons, ih.1], .cons h ih.2⟩
theorem KReps.of {Ψ : Wd} : ∀ {kvs : List (Key × V)} {ks : List (Key × D)}, kvs.map (·.1) = ks.map (·.1) → Reps c Ψ (kvs.map (·.2)) (ks.map (·.2)) → KReps c Ψ kvs ks
  | [], [], _, _ => .nil
  | [], _ :: _, h, _ => by cases h
  | _ :: _, [], h, _ => by cases h
  | (k, v) :: kvs, (k', d) :: ks, h, r => by
    rw [List.map_cons, List.map_cons] at h
    injection h with h1 h2
    have h1' : k = k' := h1
    subst h1'
    cases r with
    | cons r t => exact .cons r (KReps.of h2 t)
theorem KReps.any {Ψ : Wd} {kvs : List (Key × V)} {ks : List (Key × D)} (h : KReps c Ψ kvs ks) (k : Key) : (kvs.any fun q => decide (q.1 = k)) = (ks.any fun q => decide (q.1 = k)) := by
  induction h with
  | nil => rfl
  | cons h t ih => rw [List.any_cons, List.any_cons, ih]
theorem KReps.mapK {Ψ : Wd} {kvs : List (Key × V)} {ks : List (Key × D)} {v : V} {d : D} (r : Rep c Ψ v d) (k : Key) (h : KReps c Ψ kvs ks) : KReps c Ψ (kvs.map fun q => if q.1 = k then (q.1, v) else q) (ks.map fun q => if q.1 = k then (q.1, d) else q) := by
  induction h with
  | nil => exact .nil
  | @cons k' v' d' _ _ h t ih =>
    rw [List.map_cons, List.map_cons]
    by_cases e : k' = k
    · rw [if_pos e, if_pos e]; exact .cons r ih
    · rw [if_neg e, if_neg e]; exact .cons h ih
theorem KReps.app {Ψ : Wd} {kvs kvs' : List (Key × V)} {ks ks' : List (Key × D)} (h : KReps c Ψ kvs ks) (h' : KReps c Ψ kvs' ks') : KReps c Ψ (kvs ++ kvs') (ks ++ ks') := by
  induction h with
  | nil => exact h'
  | cons h t ih => exact .cons h ih
theorem KReps.put {Ψ : Wd} {kvs : List (Key × V)} {ks : List (Key × D)} {v : V} {d : D} (h : KReps c Ψ kvs ks) (k : Key) (r : Rep c Ψ v d) : KReps c Ψ (putK kvs k v) (putL ks k d) := by
  unfold putK putL
  rw [h.any k]
  split
  · exact h.mapK r k
  · exact h.app (.cons r .nil)
theorem KReps.get {Ψ : Wd} {kvs : List (Key × V)} {ks : List (Key × D)} (h : KReps c Ψ kvs ks) {k : Key} {d : D} (e : getL ks k = some d) : ∃ v, valV kvs k = some v ∧ Rep c Ψ v d := by
  induction h with
  | nil => cases e
  | @cons k' v' d' kvs ks h t ih =>
    by_cases z : k' = k
    · refine ⟨v', valV_pos z, ?_⟩
      unfold getL at e
      rw [List.find?_cons, decide_eq_true z] at e
      cases e
      exact h
    · have e' : getL ks k = some d := by
        unfold getL at e ⊢
        rw [List.find?_cons, decide_eq_false z] at e
        exact e
      obtain ⟨v, h1, h2⟩ := ih e'
      exact ⟨v, by rw [valV_neg z]; exact h1, h2⟩
def keyD : D → Option Key
  | .int i => some (.inl i)
  | .str x => some (.inr x)
  | _ => none
theorem keyD_rep {Ψ : Wd} {v : V} {d : D} {k : Key} (r : Rep c Ψ v d) (h : keyD d = some k) : v = kV k := by
  cases r <;> cases h <;> rfl
end
end Sm

/-! text: Sim12 -/
set_option Elab.async false
set_option linter.all false
set_option maxRecDepth 100000
set_option maxHeartbeats 1000000
namespace Sm
open PySem PySem.Spec PyProof.Rows L2

/-! ### enumerate of a tuple -/
theorem meets_enum1 {v : Value} {o : Obj} {H : Heap → Prop} (B : Begins v o H) :
    Meets (Builtin.«enumerate.__new__» ⟨[.type "enumerate", v], []⟩) (fun _ R s => H s.heap ∧
      R (.ok (.ret (.ref (s.heap.push o).objs.size))) { s with heap := (s.heap.push o).push { cls := .type "enumerate", data := .fields #[.none, .bool false, .ref s.heap.objs.size, rawInt 0, .none, .none] } }) :=
  .of_wp fun prog w A R s h => by
    obtain ⟨hp, g, d, tk, os⟩ := s; obtain ⟨h1, h⟩ := h
    have hsub := sub_enumerate
    have q1 : ∀ {A' : Around} {E : Value → Shared → Prop} {Q : Value → Shared → Prop}, Q (.ref hp.objs.size) ⟨hp.push o, g, d, tk, os⟩ → wpAny (model prog w) A' (pyIter v) Q E ⟨hp, g, d, tk, os⟩ :=
      fun q => B.iter prog w _ _ ⟨hp, g, d, tk, os⟩ _ h1 q
    wp_walk using q1
    refine wpAny_stack_any fun st => wpAny_pure ?_
    split
    · rename_i c _ _ _ _ _
      cases (c == Value.type "enumerate")
      · wp_walk using q1
        exact ⟨_, rfl, h⟩
      · wp_walk using q1
        exact ⟨_, rfl, h⟩
    · wp_walk using q1
      exact ⟨_, rfl, h⟩
section
variable {prog : Program} {w : World} {A : Around} {E : Value → Shared → Prop} {s : Shared}
theorem enum_begins1 {v : Value} {o : Obj} {H : Heap → Prop} {Q : Value → Shared → Prop} (B : Begins v o H) (h1 : H s.heap)
    (h : ∀ h', IsEnum h' (s.heap.objs.size + 1) s.heap.objs.size 0 .none → h'.get? s.heap.objs.size = some o → h'.objs.size = s.heap.objs.size + 2 →
      (∀ b o, s.heap.get? b = some o → h'.get? b = some o) → Q (.ref (s.heap.objs.size + 1)) { s with heap := h' }) :
    wpAny (model prog w) A (call (.type "enumerate") [v]) Q E s := by
  refine callType_new F.called_enumerate (by decide) (F.typeCall_enumerate_1 _) (F.newCall_enumerate_1 _) (fun obj => F.args_object_init_2 obj _) F.entry_enumerate_new
    (meets_enum1 B) ⟨h1, ?_⟩
  have hz : (s.heap.push o).objs.size = s.heap.objs.size + 1 := Heap.size_push ..
  show _ ∧ _
  rw [hz]
  have he : IsEnum ((s.heap.push o).push { cls := .type "enumerate", data := .fields #[.none, .bool false, .ref s.heap.objs.size, rawInt 0, .none, .none] }) (s.heap.objs.size + 1) s.heap.objs.size 0 .none := by
    have := Heap.get?_push_size (s.heap.push o) (o := { cls := .type "enumerate", data := .fields #[.none, .bool false, .ref s.heap.objs.size, rawInt 0, .none, .none] }) rfl
    rw [hz] at this; exact this
  refine ⟨⟨_, he, rfl⟩, h _ he (Heap.get?_push_of_some _ (Heap.get?_push_size _ B.free)) (by rw [Heap.size_push, hz]) fun b o x => Heap.get?_push_of_some _ (Heap.get?_push_of_some _ x)⟩
end
def IteT (K : PySem.W.Frag) (a : Addr) : It :=
  ⟨fun i H => ∃ (xs : List V) (x : V), SqT K H a xs ∧ xs[i]? = some x, fun i H v H' => ∃ T x, v = .ref T ∧ H T = none ∧ H' = upd H T (.tup [.int (i : Nat), x]) ∧ ∀ xs, SqT K H a xs → xs[i]? = some x, fun i H => ∃ xs : List V, SqT K H a xs ∧ xs.length = i⟩
theorem turn_enumT {P : Program} {w : World} {K : PySem.W.Frag} {elts : List Expr} {kk : Nat} {tpos : Pos} (a e it : Addr) (hne : e ≠ it) :
    Turn P w K (.Tuple elts kk tpos) (IteT K a) [e, it] e (fun i h => (∃ old, IsEnum h e it ((i : Nat) : Int) old) ∧ h.IsTupleIter it a i) where
  mem := by simp
  obj := fun i h st b hb => by
    obtain ⟨⟨old, he⟩, ⟨o, ho, hc, hd⟩⟩ := st
    have e' : b = e ∨ b = it := by simpa using hb
    rcases e' with z | z
    · rw [z]; exact ⟨_, he, fun v q => nomatch q⟩
    · rw [z]; exact ⟨o, ho, fun v q => by rw [hd] at q; cases q⟩
  keep := fun i h h' st k => let ⟨⟨old, he⟩, hi⟩ := st; ⟨⟨old, k e (by simp) _ he⟩, hi.at fun o q => k it (by simp) o q⟩
  item := by
    intro X hP hw hK hc i pins s σ H E I hf st hg
    subst hP hw hK
    obtain ⟨⟨old, he⟩, hit⟩ := st
    obtain ⟨xs, x, hq, hx⟩ := hg
    obtain ⟨its, rv, p, hz⟩ := I.tuple hq
    obtain ⟨u, hu, ru⟩ := rv.get hx
    have hel : e < s.heap.objs.size := Heap.lt_size he
    have hil : it < s.heap.objs.size := by obtain ⟨_, q, _⟩ := hit; exact Heap.lt_size q
    have hea : e ≠ a := fun z => by
      subst z
      obtain ⟨o, ho, hcl, _⟩ := p
      rw [he] at ho
      cases ho
      exact absurd (Value.type.inj hcl) (by decide)
    have hai : a ≠ it := fun z => by
      subst z
      obtain ⟨o, ho, hcl, _⟩ := p
      obtain ⟨o', ho', hcl', _⟩ := hit
      rw [ho] at ho'
      cases ho'
      rw [hcl] at hcl'
      exact absurd (Value.type.inj hcl') (by decide)
    have hlt : i < its.toArray.size := by
      have := (List.getElem?_eq_some_iff.mp hu).1
      simpa using this
    refine wpAny_pyNext_enum_itemD (Draws.tuple (A := X.A.in1) (I.ok.hd hc) it a hai its.toArray) he ⟨hit, p⟩ hlt hne (by simp [hne, hea]) fun x' h' tk hx' ho hst' hT hsz hk => ?_
    have ex : x' = u := by
      have h1 : its.toArray[i]? = some x' := hx'
      have h2 : its[i]? = some x' := by simpa using h1
      rw [hu] at h2
      exact (Option.some.inj h2).symm
    subst ex
    obtain ⟨hit', _⟩ := hst'
    refine ⟨_, rfl, wpAny_letOwnedTupleGo_enum (s := { s with heap := h', toks := tk + 1 }) ho fun h'' he' sb => ?_⟩
    have hT2 : h''.get? s.heap.objs.size = some { cls := .type "tuple", data := .seq #[.int i tk, x'] } := (sb.2 _ (Nat.ne_of_gt hel)).trans hT
    have new : ObjOk X.prog X.w (upd H s.heap.objs.size (.tup [.int (i : Nat), x])) h'' s.heap.objs.size (.tup [.int (i : Nat), x]) :=
      ⟨by show 2 ≤ sizeLine; decide, [.int i tk, x'], .cons ⟨_, rfl⟩ (.cons ru .nil), ⟨_, hT2, rfl, _, rfl⟩⟩
    have I1 : Inv X pins σ (upd H s.heap.objs.size (.tup [.int (i : Nat), x])) { s with heap := h'', toks := tk + 1 } :=
      I.turnedNew (ch := [e, it]) (fun b ob hb q => (sb.2 b (fun z => hb (by simp [z]))).trans (hk b ob (fun z => hb (by simp [z])) (fun z => hb (by simp [z])) q)) hf (Nat.le_refl _) new
    refine ⟨.ref s.heap.objs.size, _, I1, rfl, ⟨_, x, rfl, I.hok.fresh (Nat.le_refl _), rfl, fun ys hy => by rw [I.tuple_inj hy hq]; exact hx⟩, ⟨⟨x', ?_⟩, hit'.at fun o q => (sb.2 it (Ne.symm hne)).trans q⟩, fun b hb => ?_⟩
    · have e1 : ((i + 1 : Nat) : Int) = (i : Int) + 1 := by omega
      rw [e1]; exact he'
    · have hb' : b < s.heap.objs.size := by
        have e' : b = e ∨ b = it := by simpa using hb
        rcases e' with z | z
        · rw [z]; exact hel
        · rw [z]; exact hil
      rw [upd_ne (Nat.ne_of_lt hb')]
      exact (hf b hb).1
  done := by
    intro X hP hw hK hc i pins s σ H E I hf st hg
    subst hP hw hK
    obtain ⟨⟨old, he⟩, hit⟩ := st
    obtain ⟨xs, hq, hx⟩ := hg
    obtain ⟨its, rv, p, hz⟩ := I.tuple hq
    obtain ⟨f0, f1, f2, f3, f4, f5⟩ := hf it (by simp)
    have hl := rv.length
    have hai : a ≠ it := fun z => by
      subst z
      obtain ⟨o, ho, hcl, _⟩ := p
      obtain ⟨o', ho', hcl', _⟩ := hit
      rw [ho] at ho'
      cases ho'
      rw [hcl] at hcl'
      exact absurd (Value.type.inj hcl') (by decide)
    have hi : i = its.toArray.size := by simp; omega
    subst hi
    exact wpAny_pyNext_enum_endD (Draws.tuple (A := X.A.in1) (I.ok.hd hc) it a hai its.toArray) he ⟨hit, p⟩ fun h' eb => ⟨rfl, I.turned (t' := s.toks) (fun b o hb q => eb b o hb q) f0 f1 f3 f4 f5⟩
  self := fun A i s Q E st h => let ⟨⟨_, he⟩, _⟩ := st; wpAny_pyIter_enum he h
def iEnumT (K : PySem.W.Frag) (ta : TA) : TI := fun σ H R => ta σ H fun vs H1 => ∃ a xs, vs = [.ref a] ∧ ((SqL K H1 a xs ∧ R (Ite K a) H1) ∨ (SqT K H1 a xs ∧ R (IteT K a) H1))
theorem pi_enumT {X : Cx} {e : Expr} {ta : TA} {p pos tpos : Pos} {elts : List Expr} {kk : Nat} (hg : Gl X "enumerate") (hm : X.mg "enumerate" = none) (ha : PA X [e] ta) (hs : starEach [e] X.env = [(false, eval e X.env)] := by rfl) :
    PI X (.Tuple elts kk tpos) (.Call (.Name "enumerate" p) [e] [] pos) (iEnumT X.K ta) := by
  refine ⟨fun pins s σ H R I h => ?_⟩
  refine Call_ (ld_blt I hg hm boot_enumerate (PyProof.Rows.callWith_type1 (thn (ha.run pos pins s σ H _ I h) fun us s1 ⟨vs, H1, I1, r1, q1⟩ => ?_) hs rfl))
  obtain ⟨a, xs, ex, hq⟩ := q1
  subst ex
  cases r1 with
  | cons r rr =>
    cases rr
    cases r
    have fp2 : ∀ b ∈ [s1.heap.objs.size + 1, s1.heap.objs.size], FpOk X pins H1 b := fun b hb => by
      have e' : b = s1.heap.objs.size + 1 ∨ b = s1.heap.objs.size := by simpa using hb
      have hle : s1.heap.objs.size ≤ b := by
        rcases e' with z | z
        · rw [z]; exact Nat.le_add_right _ _
        · rw [z]; exact Nat.le_refl _
      exact I1.fpOk hle (I1.hok.fresh hle)
    rcases hq with ⟨hq, q⟩ | ⟨hq, q⟩
    · obtain ⟨its, rv, p', hz⟩ := I1.list hq
      refine call_enumerate_list p'.isList fun h' he hit hsz hk => wpAny_pyIter_enum he ?_
      have I2 : Inv X pins σ H1 { s1 with heap := h' } := I1.kept (t' := s1.toks) hk
      exact ⟨s1.heap.objs.size + 1, [s1.heap.objs.size + 1, s1.heap.objs.size], _, _, H1, rfl, I2, turn_enum a (s1.heap.objs.size + 1) s1.heap.objs.size, ⟨⟨.none, he⟩, hit, Nat.succ_ne_self _⟩, fp2, q⟩
    · obtain ⟨its, rv, p', hz⟩ := I1.tuple hq
      refine enum_begins1 (begins_tuple a its.toArray) p' fun h' he hit hsz hk => wpAny_pyIter_enum he ?_
      have I2 : Inv X pins σ H1 { s1 with heap := h' } := I1.kept (t' := s1.toks) hk
      exact ⟨s1.heap.objs.size + 1, [s1.heap.objs.size + 1, s1.heap.objs.size], _, _, H1, rfl, I2, turn_enumT a (s1.heap.objs.size + 1) s1.heap.objs.size (Nat.succ_ne_self _), ⟨⟨.none, he⟩, ⟨_, hit, rfl, rfl⟩⟩, fp2, q⟩
theorem walk_enumT {K : PySem.W.Frag} {a : Addr} {xs : List V} : Walk (IteT K a) xs.length (fun H => SqT K H a xs) (YPair (fun i => some (.int (i : Nat))) (fun i => xs[i]?)) := by
  refine ⟨fun i _ hi q => ⟨xs, xs[i], q, by simp [hi]⟩, fun _ q => ⟨xs, q, rfl⟩, fun i H v H' _ q y => ?_⟩
  obtain ⟨T, x, h1, h2, h3, h4⟩ := y
  exact ⟨T, .int (i : Nat), x, h1, h2, h3, rfl, h4 xs q⟩
/-- pairs (place, item) -/
def enumL : Nat → List D → List D
  | _, [] => []
  | n, d :: ds => .tup [.int n, d] :: enumL (n + 1) ds
theorem enumL_len : ∀ (n : Nat) (ds : List D), (enumL n ds).length = ds.length
  | _, [] => rfl
  | n, d :: ds => by unfold enumL; rw [List.length_cons, List.length_cons, enumL_len]
theorem enumL_get : ∀ {n i : Nat} {ds : List D} {d : D}, (enumL n ds)[i]? = some d → ∃ x, ds[i]? = some x ∧ d = .tup [.int ((n + i : Nat) : Int), x]
  | _, _, [], _, h => by unfold enumL at h; simp at h
  | n, 0, x :: ds, d, h => by
    unfold enumL at h
    simp at h
    exact ⟨x, rfl, by rw [← h]; rfl⟩
  | n, i + 1, x :: ds, d, h => by
    unfold enumL at h
    obtain ⟨y, h1, h2⟩ := enumL_get (n := n + 1) (i := i) (ds := ds) (d := d) (by simpa using h)
    refine ⟨y, by simpa using h1, ?_⟩
    rw [h2]
    have e : n + 1 + i = n + (i + 1) := by omega
    rw [e]
section
variable {c : Cf} {X : Cx} {W : L2.St → XK} {tg e a b : Expr} {pos p tpos : Pos} {elts : List Expr} {kk : Nat}
/-- a new pair is told of -/
theorem pair_new {Ψ : Wd} {H : Hp} {S : Sto} {T : Addr} {x y : V} {dx dy : D} (so : StoOk c Ψ H S) (hT : H T = none) (rx : Rep c Ψ x dx) (ry : Rep c Ψ y dy) :
    ∃ Ψ', Ext Ψ H Ψ' (L2.upd H T (.tup [x, y])) ∧ StoOk c Ψ' (L2.upd H T (.tup [x, y])) S ∧ Rep c Ψ' (.ref T) (.tup [dx, dy]) := by
  have n := so.phiNone hT
  refine ⟨Ψ.know T (.tup [x, y]), Ext.new hT n, so.new hT, .tup (.inl (.inl (show L2.upd Ψ.fz T _ T = _ from upd_same))) (by show 2 ≤ 100000; omega) ?_⟩
  exact .cons (rx.mono (Le.know n)) (.cons (ry.mono (Le.know n)) .nil)
theorem si_enum {m : Env → M D} (h : SE c X W e m) (hm : X.mg "enumerate" = none) (hg : Gl X "enumerate" := by rfl) (hs : starEach [e] X.env = [(false, eval e X.env)] := by rfl) :
    SI c X W (.Tuple elts kk tpos) (.Call (.Name "enumerate" p) [e] [] pos) (fun ρ => bd (m ρ) fun d => bd (seqM d) fun ds => rt (enumL 0 ds)) := by
  have ha : PA X [e] (rA c W fun ρ => consM (m ρ) (rt [])) := (sa_cons h (sa_nil h.k) (by rw [hs]; rfl)).p
  refine ⟨h.k, PI.imp (pi_enumT hg hm ha hs) fun σ H R ⟨Ψ, ρ, S, F, so, eo, q⟩ => ?_⟩
  refine ⟨Ψ, ρ, S, F, so, eo, ?_⟩
  unfold consM
  have q' := q.bd
  show Post c (W σ) Ψ H (bd (m ρ) (fun x => bd (rt []) fun xs => rt (x :: xs)) S) _
  unfold bd
  cases z : m ρ S with
  | stuck => rw [z] at q'; exact q'.elim
  | err k fs S1 => rw [z] at q'; exact q'
  | ok d S1 =>
    rw [z] at q'
    show ∀ Ψ' vs H', _ → _ → _ → _
    intro Ψ1 vs H1 x1 s1 r1
    cases r1 with
    | cons r1 t =>
      cases t
      have q2 : Post c (W σ) Ψ H (bd (seqM d) (fun ds => rt (enumL 0 ds)) S1) _ := q'
      have q3 := q2.bd
      unfold seqM at q3
      have go : ∀ {a : Addr} {xs : List V} {ds : List D} {J : It} {G : Hp → Prop}, xs.length ≤ LIM → Reps c Ψ1 xs ds → Walk J xs.length G (YPair (fun i => some (.int (i : Nat))) (fun i => xs[i]?)) → (∀ Ψ S H, Le Ψ1 Ψ → StoOk c Ψ H S → G H) → ItOk c (fun Ψ2 _ => Le Ψ1 Ψ2) J (enumL 0 ds) := fun {a xs ds J G} l r wk hG => by
        refine ⟨by rw [enumL_len, ← r.length]; exact l, G, _, by rw [enumL_len, ← r.length]; exact wk, hG, fun i H2 v H3 Ψ2 S2 d2 l2 s2 hd y => ?_⟩
        obtain ⟨x, hx, e⟩ := enumL_get hd
        obtain ⟨T, y1, y2, e1, e2, e3, e4, e5⟩ := y
        cases e4
        obtain ⟨y2', h1, h2⟩ := r.get hx
        have e5' : xs[i]? = some y2 := e5
        rw [e5'] at h1; cases h1
        subst e e1 e3
        have ei : ((0 + i : Nat) : Int) = (i : Nat) := by rw [Nat.zero_add]
        rw [ei]
        exact pair_new s2 e2 (.int _) (h2.mono l2)
      split at q3
      · cases r1 with
        | lst h1 l1 r1 => exact ⟨_, _, rfl, .inl ⟨SqL.of (s1.phi _ _ h1), q3 Ψ1 _ H1 x1 s1 (go (a := 0) l1 r1 walk_enum fun Ψ S H l s => SqL.of (s.phi _ _ (l.phi _ _ h1)))⟩⟩
      · cases r1 with
        | tup h1 l1 r1 => exact ⟨_, _, rfl, .inr ⟨by rw [h.k]; exact sqT_phi s1 h1, q3 Ψ1 _ H1 x1 s1 (go (a := 0) l1 r1 walk_enumT fun Ψ S H l s => by rw [h.k]; exact sqT_phi s (l.sqT h1))⟩⟩
      · cases r1 with
        | scr h1 l1 r1 => exact ⟨_, _, rfl, .inl ⟨by rw [h.k]; exact sqL_phi s1 h1, q3 Ψ1 _ H1 x1 s1 (go (a := 0) l1 r1 walk_enum fun Ψ S H l s => by rw [h.k]; exact sqL_phi s (l.sqL h1))⟩⟩
      · exact q3.elim
end
end Sm

/-! text: Sim13 -/
set_option Elab.async false
set_option linter.all false
set_option maxRecDepth 100000
set_option maxHeartbeats 1000000
namespace Sm
open PySem PySem.Spec PyProof.Rows L2
section
variable {c : Cf} {X : Cx} {W : XK} {WW : L2.St → XK} {pos pos' apos cpos : Pos} {i j : Nat} {x y : Str} {a b e o : Expr}

/-! ### own dicts: made, read, changed -/
def dctAt (ρ : Env) (i : Nat) : M (List (Key × D)) := fun S => match ρ[i]? with
  | some (.ownD ks) => .ok ks S
  | _ => .stuck
theorem dct_at {Ψ : Wd} {σ : L2.St} {ρ : Env} {H : Hp} {F : Nat → List Addr} {S : Sto} {α : Type} {R : α → Sto → Prop} {f : List (Key × D) → M α} {V0 : XK} {Ψ0 : Wd} {H0 : Hp} (eo : EnvOk c Ψ σ ρ H F) (q : Post c V0 Ψ0 H0 (bd (dctAt ρ i) f S) R) :
    ∃ ks a kvs, ρ[i]? = some (.ownD ks) ∧ F i = [a] ∧ σ[i]? = some (some (.ref a)) ∧ H a = some (.dK kvs) ∧ KReps c Ψ kvs ks ∧ Post c V0 Ψ0 H0 (f ks S) R := by
  have q' := q.bd
  unfold dctAt at q'
  split at q'
  · rename_i ks hs
    obtain ⟨a, kvs, hF, h1, h2, l, h3⟩ := eo.slot i _ hs
    exact ⟨ks, a, kvs, hs, hF, h1, h2, KReps.of l h3, q'⟩
  · exact q'.elim
/-- x[k] = v, an own dict -/
theorem ss_dset {m mk : Env → M D} {px : Pos} {kx : Expr} (h : SE c X (cW W) e m) (hk : SE c X (cW W) kx mk) (hu : X.A.units + 1 < cLine) (hN : X.N[i]? = some x := by rfl) (hv : Vis X.env.scope x := by first | exact Or.inl rfl | exact Or.inr (Or.inl rfl) | exact Or.inr (Or.inr rfl)) (hd : (x == ("__debug__" : Str)) = false := by decide)
    (hcd : (x == ("__classdict__" : Str)) = false := by decide) (hs : swapsWith e (some (.Subscript (.Name x px) kx pos')) pos.line X.env = pure false := by rfl) :
    SS c X W (.Assign [.Subscript (.Name x px) kx pos'] e pos) (fun ρ => bd (m ρ) fun v => bd (dctAt ρ i) fun ks => bd (mk ρ) fun k => fun S => match keyD k with
      | some kk => if ks.length < LIM then .ok (.nx (ρ.set i (.ownD (putL ks kk v)))) S else .stuck
      | none => .stuck) := by
  refine ⟨h.k, PS.imp (ps_dput hu (pe_var hN hv hd hcd) hk.p h.p hs) fun D σ H ⟨B, Ψ, ρ, S, F, g, q⟩ => ⟨Ψ, ρ, S, F, g.so, g.eo, (q.bd.ext g.x).mono fun v S1 q1 Ψ1 vv H1 x1 s1 r1 => ?_⟩⟩
  have g1 := g.ext x1 s1
  obtain ⟨ks, a, kvs, hr, hF, h1, h2, kr, q1⟩ := dct_at g1.eo q1
  refine ⟨.ref a, h1, Ψ1, ρ, S1, F, g1.so, g1.eo, (q1.bd.ext g1.x).mono fun k S2 q2 Ψ2 kv H2 x2 s2 r2 => ?_⟩
  have g2 := g1.ext x2 s2
  split at q2
  · rename_i kk hkk
    split at q2
    · rename_i hl
      have ek := keyD_rep r2 hkk
      subst ek
      have ha : a ∈ F i := by rw [hF]; simp
      have h2' : H2 a = some (.dK kvs) := x2.keep _ _ h2 (g1.eo.priv i a ha).2.1
      have hlen : kvs.length = ks.length := by
        have := congrArg List.length kr.to.1
        rwa [List.length_map, List.length_map] at this
      have kp : KReps c Ψ2 (putK kvs kk vv) (putL ks kk v) := by
        have kr2 : KReps c Ψ2 kvs ks := KReps.of kr.to.1 (kr.to.2.mono x2.le)
        exact kr2.put kk (r1.mono x2.le)
      refine ⟨a, _, rfl, DPut.k h2' (lim_lt (by rw [hlen]; exact hl)), ?_⟩
      exact q2 Ψ2 σ _ F (g2.upd hr ha ⟨a, _, hF, h1, upd_same, kp.to.1, kp.to.2⟩ (fun _ _ z => nomatch z))
    · exact q2.elim
  · exact q2.elim

/-! ### the first place of an equal one -/
def idxE : List PyData → PyData → Option Nat
  | [], _ => none
  | y :: ys, d => if PyData.eqv y d = true then some 0 else (idxE ys d).map (· + 1)
theorem idxE_some : ∀ {ys : List PyData} {d : PyData} {j : Nat}, idxE ys d = some j → ∃ z, ys[j]? = some z ∧ PyData.eqv z d = true ∧ ∀ (m : Nat) (z' : PyData), m < j → ys[m]? = some z' → PyData.eqv z' d = false
  | [], _, _, h => by cases h
  | y :: ys, d, j, h => by
    unfold idxE at h
    split at h
    · cases h
      exact ⟨y, rfl, by assumption, fun m z' hm => by omega⟩
    · rename_i hn
      cases e : idxE ys d with
      | none => rw [e] at h; cases h
      | some k =>
        rw [e] at h
        cases h
        obtain ⟨z, h1, h2, h3⟩ := idxE_some e
        refine ⟨z, by simpa using h1, h2, fun m z' hm hz => ?_⟩
        cases m with
        | zero =>
          simp at hz
          subst hz
          simpa using hn
        | succ m =>
        have hm' : m + 1 < k + 1 := hm
        exact h3 m z' (by omega) (by simpa using hz)
def idxD : D → D → Option D := fun a b => match a.py, b.py with
  | some (.list ys), some d => if min (PyData.depthAll ys) d.depth ≤ 60 then (idxE ys d).map fun j => D.int (j : Nat) else none
  | some (.tuple ys), some d => if min (PyData.depthAll ys) d.depth ≤ 60 then (idxE ys d).map fun j => D.int (j : Nat) else none
  | _, _ => none
def rIndexP (K : PySem.W.Frag) : V → List V → Hp → VK → Prop := fun x xs H Q => ∃ (a : Addr) (y : V) (d : PyData) (ds : List PyData) (j : Nat), x = V.ref a ∧ xs = [y] ∧ Dp K H (V.ref a) (.list ds) ∧ Dp K H y d ∧
  PyData.plainAll ds = true ∧ d.plain = true ∧ min (PyData.depthAll ds) d.depth ≤ 60 ∧ idxE ds d = some j ∧ Q (.int (j : Nat)) H
theorem mt_indexP (hu : X.A.units + 64 < cLine) : MtR X "list.index" (rIndexP X.K) := by
  intro pins s σ H x xs v us Q I rx rxs h
  obtain ⟨a, y, d, ds, j, rfl, rfl, hl, hy, sl, sd, hm, hj0, q⟩ := h
  obtain ⟨z, hz, hzj, hno⟩ := idxE_some hj0
  cases rx
  cases rxs with
  | cons ry rt =>
    rename_i uy ut
    cases rt
    obtain ⟨bs, r1⟩ := Dp.reads I d y uy hy ry
    cases hl with
    | lst hs ha =>
      obtain ⟨its, rv, ⟨⟨cls, dd, data, sls⟩, n, ho, hc, hdn, hdt⟩, hlen⟩ := I.list hs
      simp only at hc hdt
      subst hc hdt
      obtain ⟨as, h4⟩ := Dp.readsAll I ds _ its ha rv
      have hmap : its.map (SeqAt.readOf s.heap) = ds := SeqAt.readsAll_map_plain ds its as sl h4
      have hn : its.length = ds.length := by rw [← hmap, List.length_map]
      have hsl := sizeLine_eq
      have hvl := rv.length
      obtain ⟨hjd, _⟩ := List.getElem?_eq_some_iff.mp hz
      have hjl : j < its.length := by omega
      have hj : j < its.toArray.size := by simpa using hjl
      have at_ : ∀ (m : Nat) (hm : m < its.toArray.size) (z' : PyData), ds[m]? = some z' → SeqAt.readOf s.heap its.toArray[m] = z' := by
        intro m hm z' hz'
        have hml : m < its.length := by simpa using hm
        rw [← hmap, List.getElem?_map, List.getElem?_eq_getElem hml] at hz'
        have e1 : SeqAt.readOf s.heap its[m] = z' := Option.some.inj (show some (SeqAt.readOf s.heap its[m]) = some z' from hz')
        simpa using e1
      refine call_meets PySem.F.slot_list_index ⟨_, ho, rfl⟩ PySem.F.entry_list_index (PySem.F.args_list_index_2 _ _)
        (SeqAt.list_indexAt a its.toArray n dd sls uy (fun u => PyData.eqv (SeqAt.readOf s.heap u) d) j hj (by omega) ?_ ?_) ⟨ho, SeqAt.items_plain (vs := its.toArray) (show ReadsAll s.heap its.toArray.toList ds as from h4) r1 sl sd (by omega), ?_⟩
      · show PyData.eqv (SeqAt.readOf s.heap its.toArray[j]) d = true
        rw [at_ j hj z hz]
        exact hzj
      · intro m hm hmj
        have hml : m < its.length := by simpa using hm
        have hmd : m < ds.length := by omega
        have hz' : ds[m]? = some ds[m] := List.getElem?_eq_getElem hmd
        show PyData.eqv (SeqAt.readOf s.heap its.toArray[m]) d = false
        rw [at_ m hm _ hz']
        exact hno m _ hmj hz'
      · exact ⟨.int (j : Nat), H, I.tok _, ⟨_, rfl⟩, q⟩
end
end Sm

/-! text: Sim14 -/
set_option Elab.async false
set_option linter.all false
set_option maxRecDepth 100000
set_option maxHeartbeats 1000000
namespace Sm
open PySem PySem.Spec PyProof.Rows L2
section
variable {c : Cf} {X : Cx} {W : XK} {WW : L2.St → XK} {pos pos' apos cpos p p2 : Pos} {i j : Nat} {x y : Str} {a b e o : Expr}
def asL (d : D) : M (List D) := fun S => match d with
  | .lst ds => .ok ds S
  | _ => .stuck
/-- l.index(e) -/
theorem se_index {mo me : Env → M D} (ho : SB c X WW o mo) (h : SE c X WW e me) (hu : X.A.units + 64 < cLine) (hbase : attributeBase o "index" X.env (eval o X.env) = eval o X.env := by rfl)
    (hfew : ((backTo cpos (starEach [e] X.env)).all (fun x => !x.1) && (backToKw cpos (keywordEach [] X.env)).all (fun x => x.1.isSome)
      && decide ([e].length + ([] : List Keyword).length + (if ([] : List Keyword).isEmpty then 0 else 1) < 30)) = true := by rfl)
    (hline : (apos.endLine == cpos.line) = true := by rfl) (hs : starEach [e] X.env = (false, eval e X.env) :: starEach [] X.env := by rfl) (hplain : (backTo cpos (starEach [] X.env)).any (·.1) = false := by rfl) :
    SE c X WW (.Call (.Attribute o "index" apos) [e] [] cpos) (fun ρ => bd (mo ρ) fun d => bd (asL d) fun ds => bd (me ρ) fun y => opt (idxD (.lst ds) y)) := by
  refine ⟨h.k, PE.imp (pe_bm PySem.F.plainAttrs_list PySem.F.slot_list_index PySem.F.type_list_index (mt_indexP hu) ho.p (pa_cons h.p pa_nil hs) hbase hfew hline hs hplain) fun σ H Q ⟨Ψ, ρ, S, F, so, eo, q⟩ => ⟨Ψ, ρ, S, F, so, eo, q.bd.mono fun d S1 q1 Ψ1 v H1 x1 s1 r1 => ?_⟩⟩
  have q2 := q1.bd
  unfold asL at q2
  split at q2
  · rename_i ds
    obtain ⟨a0, vs, rfl, h0, l0, r0⟩ := (r1.h (eo.ext x1)).lst s1
    have q2' : Post c (WW σ) Ψ H (bd (me ρ) (fun y => opt (idxD (.lst ds) y)) S1) _ := q2
    refine ⟨.inl ⟨rfl, vs, SqL.of h0⟩, Ψ1, ρ, S1, F, s1, eo.ext x1, (Post.ext x1 q2').bd.mono fun y S2 q3 Ψ2 yv H2 x2 s2 r2 => ?_⟩
    unfold opt at q3
    split at q3
    · rename_i dd hd
      unfold idxD at hd
      split at hd
      · rename_i ys py h1 h2
        split at hd
        · rename_i hm
          cases hj : idxE ys py with
          | none => rw [hj] at hd; cases hd
          | some jj =>
            rw [hj] at hd
            cases hd
            have e1 := ((r1.mono x2.le).h (eo.ext (x1.trans x2))).dp s2 h1
            have e2 : Dp c.K H2 yv py := RepH.dp s2 (.inl r2) h2
            have pl1 := D.plain h1
            refine ⟨a0, yv, py, ys, jj, rfl, rfl, h.k ▸ e1, h.k ▸ e2, pl1, D.plain h2, hm, hj, ?_⟩
            exact q3 Ψ2 _ H2 (x1.trans x2) s2 (.int _)
        · cases hd
      · rename_i ys py h1 h2
        unfold D.py at h1
        split at h1 <;> cases h1
      · cases hd
    · exact q3.elim
  · exact q2.elim
/-- the index of a text in a written tuple of texts -/
def idxS (ys : List Str) (z : Str) : Option Nat := match ys with
  | [] => none
  | y :: ys => if y = z then some 0 else (idxS ys z).map (· + 1)
theorem idxS_some : ∀ {ys : List Str} {z : Str} {j : Nat}, idxS ys z = some j → ys[j]? = some z ∧ ∀ m, m < j → ys[m]? ≠ some z
  | [], _, _, h => by cases h
  | y :: ys, z, j, h => by
    unfold idxS at h
    split at h
    · cases h
      exact ⟨by rename_i e; rw [e]; rfl, fun m hm => by omega⟩
    · rename_i hn
      cases e : idxS ys z with
      | none => rw [e] at h; cases h
      | some k =>
        rw [e] at h
        cases h
        obtain ⟨h1, h2⟩ := idxS_some e
        refine ⟨by simpa using h1, fun m hm => ?_⟩
        cases m with
        | zero => simp; exact hn
        | succ m =>
          have hm' : m + 1 < k + 1 := hm
          simpa using h2 m (by omega)
/-- a tuple of texts that the top has made -/
structure KTs (K : PySem.W.Frag) (a : Addr) (ys : List Str) : Prop where
  ex : ∃ (o : Obj) (its : Array Value) (n : Nat), K.lookup a = some o ∧ o.cls = .type "tuple" ∧ o.dict = none ∧ o.data = .seq its n ∧ its.size ≤ sizeLine ∧ Vals (ys.map V.str) its.toList
theorem KTs.sqT {K : PySem.W.Frag} {a : Addr} {ys : List Str} (k : KTs K a ys) (H : Hp) : SqT K H a (ys.map V.str) := by
  obtain ⟨o, its, n, h1, h2, _, h3, h4, h5⟩ := k.ex
  exact .inr ⟨o, its, n, h1, h2, h3, h4, h5⟩
theorem KTs.rep {a : Addr} {ys : List Str} (k : KTs c.K a ys) (hl : ys.length ≤ LIM) (Ψ : Wd) : Rep c Ψ (.ref a) (.tup (ys.map D.str)) := by
  refine .tup (k.sqT _) (by rw [List.length_map]; exact hl) ?_
  clear hl k
  induction ys with
  | nil => exact .nil
  | cons y ys ih => exact .cons (.str y) ih
theorem se_kidx {me : Env → M D} {ad : Addr} {ys : List Str} (k : KTs c.K ad ys) (hg : Gl X x) (hm : X.mg x = some (.ref ad)) (h : SE c X WW e me) (hd : (x == ("__debug__" : Str)) = false := by decide) (hbase : attributeBase (.Name x p) "index" X.env (eval (.Name x p) X.env) = eval (.Name x p) X.env := by rfl)
    (hfew : ((backTo cpos (starEach [e] X.env)).all (fun x => !x.1) && (backToKw cpos (keywordEach [] X.env)).all (fun x => x.1.isSome)
      && decide ([e].length + ([] : List Keyword).length + (if ([] : List Keyword).isEmpty then 0 else 1) < 30)) = true := by rfl)
    (hline : (apos.endLine == cpos.line) = true := by rfl) (hs : starEach [e] X.env = (false, eval e X.env) :: starEach [] X.env := by rfl) (hplain : (backTo cpos (starEach [] X.env)).any (·.1) = false := by rfl) :
    SE c X WW (.Call (.Attribute (.Name x p) "index" apos) [e] [] cpos) (fun ρ => bd (me ρ) fun y => fun S => match y with
      | .str z => match idxS ys z with
        | some j => .ok (.int (j : Nat)) S
        | none => .stuck
      | _ => .stuck) := by
  refine ⟨h.k, PE.imp (pe_bm PySem.F.plainAttrs_tuple PySem.F.slot_tuple_index PySem.F.type_tuple_index mt_tup_index (pe_glob (v := .ref ad) hg hm rfl hd) (pa_cons h.p pa_nil hs) hbase hfew hline hs hplain) fun σ H Q ⟨Ψ, ρ, S, F, so, eo, q⟩ => ?_⟩
  obtain ⟨o, its, n, h1, h2, h3, h4, h5, h6⟩ := k.ex
  refine ⟨.inr (.inl ⟨rfl, o, by rw [h.k]; exact h1, h2, h3⟩), Ψ, ρ, S, F, so, eo, q.bd.mono fun y S1 q1 Ψ1 yv H1 x1 s1 r1 => ?_⟩
  split at q1
  · rename_i z
    split at q1
    · rename_i jj hj
      cases r1
      obtain ⟨g1, g2⟩ := idxS_some hj
      exact ⟨ad, ys, z, jj, rfl, rfl, by rw [h.k]; exact k.sqT _, g1, g2, q1 Ψ1 _ H1 x1 s1 (.int _)⟩
    · exact q1.elim
  · exact q1.elim
/-! ### a dict of the module with text keys -/
/-- at ad: the module's dict, its values told by vs -/
structure KDt (c : Cf) (w : World) (ad : Addr) (vs : List (Str × D)) : Prop where
  at_ : ∃ es n, KDict c.K w ad es n
  get : ∀ q ∈ vs, ∃ u v, PySem.W.nsIn c.K ad q.1 = some (some u) ∧ RelV v u ∧ ∀ Ψ, Rep c Ψ v q.2
  miss : ∀ z : Str, (∀ q ∈ vs, q.1 ≠ z) → PySem.W.nsIn c.K ad z = some none
def lkS (vs : List (Str × D)) (z : Str) : Option D := (vs.find? fun q => decide (q.1 = z)).map (·.2)
theorem lkS_mem : ∀ {vs : List (Str × D)} {z : Str} {d : D}, lkS vs z = some d → (z, d) ∈ vs
  | [], _, _, h => by cases h
  | (k, d0) :: vs, z, d, h => by
    by_cases e : k = z
    · unfold lkS at h
      rw [List.find?_cons, decide_eq_true e] at h
      cases h
      subst e
      exact List.mem_cons_self
    · have h' : lkS vs z = some d := by
        unfold lkS at h ⊢
        rw [List.find?_cons, decide_eq_false e] at h
        exact h
      exact List.mem_cons_of_mem _ (lkS_mem h')
theorem lkS_none : ∀ {vs : List (Str × D)} {z : Str}, lkS vs z = none → ∀ q ∈ vs, q.1 ≠ z
  | [], _, _, _, h => by cases h
  | (k, d0) :: vs, z, h, q, hq => by
    by_cases e : k = z
    · unfold lkS at h
      rw [List.find?_cons, decide_eq_true e] at h
      cases h
    · have h' : lkS vs z = none := by
        unfold lkS at h ⊢
        rw [List.find?_cons, decide_eq_false e] at h
        exact h
      rcases List.mem_cons.mp hq with rfl | hq
      · exact e
      · exact lkS_none h' q hq
/-- x in D, x a text -/
theorem se_inKD {me : Env → M D} {ad : Addr} {vs : List (Str × D)} (k : KDt c X.w ad vs) (hg : Gl X x) (hm : X.mg x = some (.ref ad)) (h : SE c X WW e me) (hd : (x == ("__debug__" : Str)) = false := by decide) (hk : behindInMarks .In (.Name x p) = false := by first | rfl | with_unfolding_all rfl) :
    SE c X WW (.Compare e [.In] [.Name x p] pos) (fun ρ => bd (me ρ) fun y => fun S => match y with
      | .str z => .ok (.bl (lkS vs z).isSome) S
      | _ => .stuck) := by
  obtain ⟨es, n, kd⟩ := k.at_
  refine ⟨h.k, PE.imp (pe_cmpR (op_in_kd (h.k ▸ kd)) h.p (pe_glob (v := .ref ad) hg hm rfl hd) hk) fun σ H Q ⟨Ψ, ρ, S, F, so, eo, q⟩ => ⟨Ψ, ρ, S, F, so, eo, q.bd.mono fun y S1 q1 Ψ1 v H1 x1 s1 r1 => ?_⟩⟩
  split at q1
  · rename_i z
    cases r1
    cases hz : lkS vs z with
    | some d =>
      rw [hz] at q1
      obtain ⟨u, v, e1, _, _⟩ := k.get _ (lkS_mem hz)
      exact ⟨z, some u, rfl, rfl, by rw [h.k]; exact e1, q1 Ψ1 _ H1 x1 s1 (.bl _)⟩
    | none =>
      rw [hz] at q1
      exact ⟨z, none, rfl, rfl, by rw [h.k]; exact k.miss z (lkS_none hz), q1 Ψ1 _ H1 x1 s1 (.bl _)⟩
  · exact q1.elim
end
end Sm

/-! text: Sim15 -/
set_option Elab.async false
set_option linter.all false
set_option maxRecDepth 100000
set_option maxHeartbeats 1000000
namespace Sm
open PySem PySem.Spec PyProof.Rows L2
section
variable {c : Cf} {X : Cx} {W : XK} {WW : L2.St → XK} {pos pos' apos cpos p p2 : Pos} {i j k : Nat} {x y f : Str} {a b e o : Expr} {es : List Expr}
/-! ### instances -/
def slotM (k i : Nat) (d : D) : M D := fun S => match d with
  | .ins k' fs => match Nat.decEq k' k with
    | .isTrue _ => match fs[i]? with
      | some v => .ok v S
      | none => .stuck
    | .isFalse _ => .stuck
  | _ => .stuck
def insM (k : Nat) (d : D) : M D := fun S => match d with
  | .ins k' fs => match Nat.decEq k' k with
    | .isTrue _ => .ok (.ins k' fs) S
    | .isFalse _ => .stuck
  | _ => .stuck
/-- e.f, a slot -/
theorem se_attr {me : Env → M D} {ad : Addr} (h : SE c X WW e me) (C : SlX.SCls c.K (c.cls k)) (t : SlX.Slot1 c.K (c.cls k) f ad i) (hb : attributeBase e f X.env (eval e X.env) = eval e X.env := by rfl) :
    SE c X WW (.Attribute e f pos) (fun ρ => bd (me ρ) (slotM k i)) := by
  refine ⟨h.k, PE.imp (SlX.pe_sl h.p hb) fun σ H Q ⟨Ψ, ρ, S, F, so, eo, q⟩ => ⟨Ψ, ρ, S, F, so, eo, q.bd.mono fun d S1 q1 Ψ1 v H1 x1 s1 r1 => ?_⟩⟩
  unfold slotM at q1
  split at q1
  · split at q1
    · split at q1
      · rename_i _ ek _ _ d hd
        subst ek
        cases r1 with
        | ins h0 r0 =>
          obtain ⟨v', hv, rv⟩ := r0.get hd
          exact ⟨_, _, _, ad, _, i, v', rfl, slt_phi s1 h0, h.k ▸ C, h.k ▸ t, by rw [List.getElem?_map, hv]; rfl, q1 Ψ1 v' H1 x1 s1 rv⟩
      · exact q1.elim
    · exact q1.elim
  · exact q1.elim
/-- the facts of a property -/
structure Prp (K : PySem.W.Frag) (C : Addr) (f : Str) (p g : Addr) : Prop where
  at_ : PySem.W.findIn K (.ref C) f = some (some (.ref p))
  get : PySem.W.specialIn K (.ref p) "__get__" = some (some (.builtin "property.__get__"))
  tk : PySem.W.takesIn K (.ref p) = some true
  rc : ∃ rest, PySem.W.recIn K p "property" = some (.ref g :: rest)
theorem se_prop {me : Env → M D} {ad g : Addr} {n : Nat} {m : List D → M D} (h : SE c X WW e me) (C : SlX.SCls c.K (c.cls k)) (t : Prp c.K (c.cls k) f ad g) (G : Fn c X.prog X.w X.mg X.base n g 1 m) (hr : Room (n + 1) X.A) (hb : attributeBase e f X.env (eval e X.env) = eval e X.env := by rfl) :
    SE c X WW (.Attribute e f pos) (fun ρ => bd (me ρ) fun d => bd (insM k d) fun d => noX (callM 1 m [d])) := by
  have G' : FnR X.prog X.w X.K X.mg X.base (L2.CX X.prog X.w) n g (PromF c 1 m) := by rw [h.k]; exact G.r
  refine ⟨h.k, PE.imp (SlX.pe_propSl (E := E0) h.p (h.k ▸ C) (by rw [h.k]; exact t.at_) (by rw [h.k]; exact t.get) (by rw [h.k]; exact t.tk) (by rw [h.k]; exact t.rc) G' hr (fun H s er s' z => by
    obtain ⟨_, _, _, _, _, _, _, _, _, _, _, _, z⟩ := z
    exact z.elim) hb) fun σ H Q ⟨Ψ, ρ, S, F, so, eo, q⟩ => ⟨Ψ, ρ, S, F, so, eo, q.bd.mono fun d S1 q1 Ψ1 v H1 x1 s1 r1 => ?_⟩⟩
  have q2 := q1.bd
  unfold insM at q2
  split at q2
  · split at q2
    · rename_i _ fs _ ek _
      subst ek
      have q3 : Post c (WW σ) Ψ H (noX (callM 1 m [.ins _ fs]) S1) _ := q2
      cases r1 with
      | ins h0 r0 =>
        refine ⟨_, _, _, rfl, slt_phi s1 h0, ?_⟩
        exact prom_of (E := E0) (ds := [.ins _ fs]) s1 (.cons (.ins h0 r0) .nil) ((Post.noX (W' := E0) q3).ext x1) fun d' S' Ψ' v H' q4 e2 s2 r2 => q4 Ψ' v H' (x1.trans e2) s2 r2
    · exact q2.elim
  · exact q2.elim
theorem passes_wx {E : XK} (tk : Takes X (wx (cW E))) : Passes (L2.CX X.prog X.w) X E := fun _ _ _ _ e s' I z => tk e s' (XE.of_call I (fun _ _ _ h => h) z)
/-- o.m(e, ..) of an instance -/
theorem se_meth {mo : Env → M D} {ma : Env → M (List D)} {g : Addr} {n nn : Nat} {m : List D → M D} {E : XK} {nm : Str} {pl : Sem Bool} (ho : SE c X (cW E) o mo) (ha : SA c X (cW E) (e :: es) ma) (C : SlX.SCls c.K (c.cls k)) (hm : Meth c.K (c.cls k) nm g) (G : Fn c X.prog X.w X.mg X.base n g nn m) (hr : Room n X.A) (tk : Takes X (wx (cW E)))
    (hst : starEach (e :: es) X.env = (false, eval e X.env) :: starEach es X.env := by rfl) (hpl : (backTo pos (starEach es X.env)).any (·.1) = false := by rfl)
    (ht : eval (.Call (.Attribute o nm apos) (e :: es) [] pos) X.env = (do
      let ov ← eval o X.env
      standAt apos.atName
      let (f, first) ← holding [ov] (getMethod ov nm pl)
      callWith pos f first (backTo pos (starEach (e :: es) X.env)) (backToKw pos (keywordEach [] X.env))) := by rfl) :
    SE c X (cW E) (.Call (.Attribute o nm apos) (e :: es) [] pos) (fun ρ => bd (mo ρ) fun d => bd (insM k d) fun d => bd (ma ρ) fun ds => callM nn m (d :: ds)) := by
  have G' : FnR X.prog X.w X.K X.mg X.base (L2.CX X.prog X.w) n g (PromF c nn m) := by rw [ho.k]; exact G.r
  refine ⟨ho.k, PE.imp (SlX.pe_methSl ho.p (ho.k ▸ C) (ho.k ▸ hm) G' hr (passes_wx tk) ha.p hst hpl ht) fun σ H Q ⟨Ψ, ρ, S, F, so, eo, q⟩ => ⟨Ψ, ρ, S, F, so, eo, q.bd.mono fun d S1 q1 Ψ1 v H1 x1 s1 r1 => ?_⟩⟩
  have q2 := q1.bd
  unfold insM at q2
  split at q2
  · split at q2
    · rename_i _ fs _ ek _
      subst ek
      have q3 : Post c E Ψ H (bd (ma ρ) (fun ds => callM nn m (.ins _ fs :: ds)) S1) _ := q2
      cases r1 with
      | ins h0 r0 =>
        refine ⟨_, _, _, rfl, slt_phi s1 h0, Ψ1, ρ, S1, F, s1, eo.ext x1, (Post.ext x1 q3).bd.mono fun ds S2 q4 Ψ2 ws H2 x2 s2 r2 => ?_⟩
        exact prom_of (ds := .ins _ fs :: ds) s2 (.cons (Rep.mono x2.le (.ins h0 r0)) r2) (q4.ext x2) fun d' S' Ψ' v H' q5 e2 s3 r3 => q5 Ψ' v H' ((x1.trans x2).trans e2) s3 r3
    · exact q2.elim
  · exact q2.elim
theorem se_meth0 {mo : Env → M D} {g : Addr} {n nn : Nat} {m : List D → M D} {E : XK} {nm : Str} {pl : Sem Bool} (ho : SE c X (cW E) o mo) (C : SlX.SCls c.K (c.cls k)) (hm : Meth c.K (c.cls k) nm g) (G : Fn c X.prog X.w X.mg X.base n g nn m) (hr : Room n X.A) (tk : Takes X (wx (cW E)))
    (ht : eval (.Call (.Attribute o nm apos) [] [] pos) X.env = (do
      let ov ← eval o X.env
      standAt apos.atName
      let (f, first) ← holding [ov] (getMethod ov nm pl)
      callWith pos f first (backTo pos (starEach [] X.env)) (backToKw pos (keywordEach [] X.env))) := by rfl) :
    SE c X (cW E) (.Call (.Attribute o nm apos) [] [] pos) (fun ρ => bd (mo ρ) fun d => bd (insM k d) fun d => callM nn m [d]) := by
  have G' : FnR X.prog X.w X.K X.mg X.base (L2.CX X.prog X.w) n g (PromF c nn m) := by rw [ho.k]; exact G.r
  refine ⟨ho.k, PE.imp (SlX.pe_methSl0 ho.p (ho.k ▸ C) (ho.k ▸ hm) G' hr (passes_wx tk) ht) fun σ H Q ⟨Ψ, ρ, S, F, so, eo, q⟩ => ⟨Ψ, ρ, S, F, so, eo, q.bd.mono fun d S1 q1 Ψ1 v H1 x1 s1 r1 => ?_⟩⟩
  have q2 := q1.bd
  unfold insM at q2
  split at q2
  · split at q2
    · rename_i _ fs _ ek _
      subst ek
      have q3 : Post c E Ψ H (callM nn m [.ins _ fs] S1) _ := q2
      cases r1 with
      | ins h0 r0 =>
        refine ⟨_, _, _, rfl, slt_phi s1 h0, ?_⟩
        exact prom_of (ds := [.ins _ fs]) s1 (.cons (.ins h0 r0) .nil) (q3.ext x1) fun d' S' Ψ' v H' q5 e2 s3 r3 => q5 Ψ' v H' (x1.trans e2) s3 r3
    · exact q2.elim
  · exact q2.elim

/-! ### made -/
def allS : List (Option D) → Option (List D)
  | [] => some []
  | some d :: r => (allS r).map (d :: ·)
  | none :: _ => none
def iniE (ρ : Env) : M D := fun S => match ρ[0]? with
  | some (Slot.ownI k fs) => match allS fs with
    | some ds => .ok (.ins k ds) S
    | none => .stuck
  | _ => .stuck
def iniM (o : Out) : M D := match o with
  | .nx ρ => iniE ρ
  | _ => stk
def initM (n nf k : Nat) (mb : Env → M Out) (ds : List D) : M D := bd (mb (.ownI k (List.replicate nf none) :: (ds.map Slot.val ++ List.replicate (n - 1 - ds.length) .no))) iniM
def PromI (c : Cf) (n k : Nat) (m : List D → M D) : Sp := fun vs H Q E => ∃ Ψ S ds H0 a dx ws, vs = .ref a :: ws ∧ H0 a = none ∧ H0 dx = none ∧ dx ≠ a ∧ H = upd (upd H0 dx (.own a)) a (.ins (c.cls k) dx []) ∧ StoOk c Ψ H0 S ∧ Reps c Ψ ws ds ∧ ds.length = n ∧
  Post c E Ψ H0 (m ds S) (fun d S' => ∀ Ψ' H', Ext Ψ H0 Ψ' H' → StoOk c Ψ' H' S' → Rep c Ψ' (.ref a) d → Q .non H')
theorem Ext.knowP {Ψ0 Ψ : Wd} {H0 H : Hp} {a : Addr} {o : HO} (x : Ext Ψ0 H0 Ψ H) (h : H0 a = none) (n : Ψ.fz a = none) : Ext Ψ0 H0 (Ψ.know a o) H :=
  ⟨x.le.trans (Le.know n), x.dom, fun b u e => by
    by_cases z : b = a
    · subst z; exact .inr (.inl h)
    · have e' : L2.upd Ψ.fz a o b = some u := e
      rw [upd_ne z] at e'
      exact x.nphi b u e', x.nmu, x.keep⟩
theorem RepsO.all {Ψ : Wd} : ∀ {fs : List (Option D)} {vs : List (Option V)} {ds : List D}, allS fs = some ds → vs.length ≤ fs.length → RepsO c Ψ vs fs → ∃ ws, vs = ws.map some ∧ Reps c Ψ ws ds
  | [], [], _, h, _, _ => by
    cases h
    exact ⟨[], rfl, .nil⟩
  | [], _ :: _, _, _, l, _ => by cases l
  | none :: _, _, _, h, _, _ => by cases h
  | some d :: fs, vs, ds, h, l, r => by
    unfold allS at h
    cases e : allS fs with
    | none => rw [e] at h; cases h
    | some ds' =>
      rw [e] at h
      cases h
      obtain ⟨v, h1, h2⟩ := r 0 d rfl
      cases vs with
      | nil => cases h1
      | cons v0 vs =>
        have e0 : v0 = some v := Option.some.inj h1
        subst e0
        obtain ⟨ws, e1, e2⟩ := RepsO.all (vs := vs) e (Nat.le_of_succ_le_succ l) fun i d hi => r (i + 1) d hi
        exact ⟨v :: ws, by rw [e1]; rfl, .cons h2 e2⟩
end
section
variable {c : Cf} {P : Program} {w : World} {mg : Str → Option Value} {base : Heap} {x qual : Str} {params : Arguments} {body : List Stmt} {scope : Scope} {dvs : List V} {kws : List (Str × V)} {f : Addr} {fd : FuncData} {N ps : List Str} {k nf kc : Nat} {mb : Env → M Out}
theorem env_init {Ψ : Wd} {H0 : Hp} {N : List Str} {ws : List V} {ds : List D} {a dx : Addr} (r : Reps c Ψ ws ds) {S : Sto} (so : StoOk c Ψ H0 S) (ha : H0 a = none) (hdx : H0 dx = none) (ne : dx ≠ a) (hN : 1 ≤ N.length) :
    EnvOk c Ψ (L2.start N (.ref a :: ws)) (.ownI kc (List.replicate nf none) :: (ds.map Slot.val ++ List.replicate (N.length - 1 - ds.length) .no)) (upd (upd H0 dx (.own a)) a (.ins (c.cls kc) dx [])) (fun j => if j = 0 then [a, dx] else []) := by
  have hl := r.length
  have e1 := env_start (c := c) (Ψ := Ψ) (H := upd (upd H0 dx (.own a)) a (.ins (c.cls kc) dx [])) (N := N.tail) r
  have hs : L2.start N (.ref a :: ws) = some (.ref a) :: L2.start N.tail ws := by
    unfold L2.start
    rw [List.map_cons, List.length_cons, List.length_tail, List.cons_append]
    congr 3
    omega
  have hd : N.tail.length - ds.length = N.length - 1 - ds.length := by rw [List.length_tail]
  rw [hd] at e1
  rw [hs]
  have hb : ∀ j b, b ∈ (if j = 0 then [a, dx] else []) → j = 0 ∧ (b = a ∨ b = dx) := fun j b h => by
    by_cases z : j = 0
    · rw [if_pos z] at h
      simp at h
      exact ⟨z, h⟩
    · rw [if_neg z] at h
      cases h
  refine ⟨by rw [List.length_cons, List.length_cons, e1.len], fun j s hj => ?_, fun j hj => ?_, fun j b h => ?_, fun j l b n h1 h2 => ?_⟩
  · cases j with
    | zero =>
      cases hj
      have ndx : (upd (upd H0 dx (.own a)) a (.ins (c.cls kc) dx [])) dx ≠ none := by
        rw [upd_ne ne, upd_same]; exact fun z => nomatch z
      exact ⟨a, dx, [], rfl, rfl, .inl ⟨upd_same, rfl⟩, ndx, ne, Nat.zero_le _, fun i d hi => by
        rw [List.getElem?_replicate] at hi
        split at hi
        · cases hi
        · cases hi⟩
    | succ j => exact e1.slot j s hj
  · cases j with
    | zero => cases hj
    | succ j => rfl
  · obtain ⟨_, h2⟩ := hb j b h
    have p1 : Ψ.fz b = none ∧ ¬ Foot Ψ b := by
      rcases h2 with rfl | rfl
      · exact ⟨so.phiNone ha, so.footNone ha⟩
      · exact ⟨so.phiNone hdx, so.footNone hdx⟩
    refine ⟨p1.1, p1.2, ?_⟩
    rcases h2 with rfl | rfl
    · rw [upd_same]; exact fun z => nomatch z
    · rw [upd_ne ne, upd_same]; exact fun z => nomatch z
  · obtain ⟨z1, _⟩ := hb j b h1
    obtain ⟨z2, _⟩ := hb l b h2
    exact n (z1.trans z2.symm)
theorem initOk_mk {n : Nat} (F : FunD c.K x qual params body scope dvs kws f fd) (sc : FnScope N ps scope) (hn : ps.length = n + 1) (hN : 1 ≤ N.length)
    (hbody : ∀ (cdv : Value) (A : Around) (outer : List PySem.Env) (s : Shared) (H : Hp) (E : XK), Room k (A.deeper (envOfC qual scope s.heap.objs.size f cdv)) → SSs c (cxOf (L2.CX P w) P w c.K mg base N qual scope f cdv A outer s H E) E body mb) :
    FnOk P w c.K mg base (L2.CX P w) (k + 1) f fd ps (PromI c n kc (initM N.length nf kc mb)) := by
  refine F.ok sc (fun vs H Q E h => ?_) fun cdv A outer s H vs Q E hr h => ⟨_, (hbody cdv A outer s H E hr).p, ?_⟩
  · obtain ⟨Ψ, S, ds, H0, a, dx, ws, rfl, _, _, _, _, _, r, l, _⟩ := h
    rw [List.length_cons, r.length, l, hn]
  · obtain ⟨Ψ, S, ds, H0, a, dx, ws, rfl, ha, hdx, ne, rfl, so, r, l, q⟩ := h
    have hda : (upd H0 dx (.own a)) a = none := by rw [upd_ne (Ne.symm ne)]; exact ha
    refine ⟨⟨Ψ, H0, a⟩, Ψ, _, S, _, ⟨(Ext.lay hdx).trans (Ext.lay hda), (so.lay hdx).lay hda, env_init r so ha hdx ne hN, fun j b h => ?_, fun k fs h => ?_⟩, (Post.bd q).mono fun o S' q' => ?_⟩
    · by_cases z : j = 0
      · simp only [z, if_true] at h
        simp at h
        rcases h with rfl | rfl
        · exact ha
        · exact hdx
      · rw [if_neg z] at h
        cases h
    · unfold L2.start
      rfl
    · cases o with
      | nx ρ =>
        intro Ψ' σ' H' F' g
        have q2 : Post c E Ψ H0 (iniE ρ S') _ := q'
        unfold iniE at q2
        split at q2
        · rename_i k' fs hs
          split at q2
          · rename_i dl hall
            obtain ⟨a', dx', vs, hF, h1, h2, h3, h4, h5, h6⟩ := g.eo.slot 0 _ hs
            have em := g.me k' fs hs
            rw [h1] at em
            have ea : a' = a := by
              have := Option.some.inj (Option.some.inj em)
              injection this
            subst ea
            obtain ⟨ws', ev, rw'⟩ := RepsO.all hall h5 h6
            subst ev
            have pa := g.eo.priv 0 a' (by rw [hF]; simp)
            have pd := g.eo.priv 0 dx' (by rw [hF]; simp)
            have fa := g.fr 0 a' (by rw [hF]; simp)
            have fd' := g.fr 0 dx' (by rw [hF]; simp)
            obtain ⟨oa, hoa⟩ : ∃ oa, H' a' = some oa := by
              cases e : H' a' with
              | none => exact absurd e pa.2.2
              | some oa => exact ⟨oa, rfl⟩
            obtain ⟨od, hod⟩ : ∃ od, H' dx' = some od := by
              cases e : H' dx' with
              | none => exact absurd e pd.2.2
              | some od => exact ⟨od, rfl⟩
            have nd : (Ψ'.know a' oa).fz dx' = none := by
              show L2.upd Ψ'.fz a' oa dx' = none
              rw [upd_ne h4]; exact pd.1
            have so2 := (g.so.know hoa pa.1 pa.2.1).know hod nd pd.2.1
            have x2 := (Ext.knowP (o := oa) g.x fa pa.1).knowP (o := od) fd' nd
            have le2 : Le Ψ' ((Ψ'.know a' oa).know dx' od) := (Le.know pa.1).trans (Le.know nd)
            refine q2 _ H' x2 so2 (.ins (dx := dx') (vs := ws') ?_ (rw'.mono le2))
            have k1 : ((Ψ'.know a' oa).know dx' od).fz a' = some oa := by
              show L2.upd (L2.upd Ψ'.fz a' oa) dx' od a' = _
              rw [upd_ne (Ne.symm h4), upd_same]
            have k2 : ((Ψ'.know a' oa).know dx' od).fz dx' = some od := upd_same
            rcases h2 with ⟨z1, z2⟩ | ⟨z1, z2⟩
            · rw [hoa] at z1
              exact .inl ⟨by rw [k1]; exact z1, z2⟩
            · rw [hoa] at z1
              rw [hod] at z2
              exact .inr ⟨by rw [k1]; exact z1, by rw [k2]; exact z2⟩
          · exact q2.elim
        · exact q2.elim
      | ret d => exact q'.elim
      | bk ρ => exact q'.elim
      | ct ρ => exact q'.elim
end
end Sm

/-! text: Sim16 -/
set_option Elab.async false
set_option linter.all false
set_option maxRecDepth 100000
set_option maxHeartbeats 1000000
namespace Sm
open PySem PySem.Spec PyProof.Rows L2
/-- keywords' values -/
structure SK (c : Cf) (X : Cx) (W : L2.St → XK) (kws : List Keyword) (m : Env → M (List D)) : Prop where
  k : X.K = c.K
  p : PK X kws (rA c W m)
theorem PK.imp {X : Cx} {es : List Keyword} {t u : TA} (h : PK X es t) (k : ∀ σ H Q, u σ H Q → t σ H Q) : PK X es u := ⟨fun pos pins s σ H Q I q => h.run pos pins s σ H Q I (k _ _ _ q)⟩
section
variable {c : Cf} {X : Cx} {W : L2.St → XK} {e : Expr} {kws : List Keyword} {nm : Option Str} {kpos : Pos}
theorem sk_nil (k : X.K = c.K) : SK c X W [] (fun _ => rt []) := ⟨k, PK.imp pk_nil fun σ H Q ⟨Ψ, ρ, S, F, so, eo, q⟩ => q Ψ [] H (Ext.refl _ _) so .nil⟩
theorem sk_cons {m : Env → M D} {ms : Env → M (List D)} (h : SE c X W e m) (t : SK c X W kws ms) : SK c X W (⟨nm, e, kpos⟩ :: kws) (fun ρ => consM (m ρ) (ms ρ)) := by
  refine ⟨h.k, PK.imp (pk_cons h.p t.p) fun σ H Q ⟨Ψ, ρ, S, F, so, eo, q⟩ => ⟨Ψ, ρ, S, F, so, eo, q.bd.mono fun d S1 q1 Ψ1 x H1 e1 so1 r1 => ?_⟩⟩
  refine ⟨Ψ1, ρ, S1, F, so1, eo.ext e1, (q1.ext e1).bd.mono fun ds S2 q2 Ψ2 xs H2 e2 so2 r2 => ?_⟩
  exact q2 Ψ2 _ H2 (e1.trans e2) so2 (.cons (r1.mono e2.le) r2)
end
section
variable {c : Cf} {P : Program} {w : World} {mg : Str → Option Value} {base : Heap} {f : Addr} {fd : FuncData} {ps : List Str} {k n : Nat} {m : List D → M D}
/-- a class that may be made: k args, its number kc -/
structure Mk1 (c : Cf) (P : Program) (w : World) (mg : Str → Option Value) (base : Heap) (k kc n : Nat) (m : List D → M D) : Prop where
  ex : ∃ (f : Addr) (fd : FuncData) (ps : List Str) (ds : List Value) (dvs : List V) (des : List D), Mk c.K (c.cls kc) f ∧ FnOk P w c.K mg base (L2.CX P w) k f fd ps (PromI c (n + des.length) kc (fun xs => m xs)) ∧ Binds c.K fd ps ds ∧ Vals dvs ds ∧ ∀ Ψ, Reps c Ψ dvs des
end
section
variable {c : Cf} {X : Cx} {W : XK} {pos pos' apos cpos p p2 : Pos} {i j k kc n : Nat} {x y f : Str} {a b e o : Expr} {es : List Expr} {kws : List Keyword}
/-- C(e, ..) -/
theorem se_make {ma : Env → M (List D)} {m : List D → M D} {g : Addr} {fd : FuncData} {ps : List Str} {E : XK} {ad : Addr} (M : Mk c.K (c.cls kc) g) (F : FnOk X.prog X.w c.K X.mg X.base (L2.CX X.prog X.w) k g fd ps (PromI c n kc m)) (hb : Binds c.K fd ps []) (hr : Room (k + 1) X.A) (hm : X.mg x = some (.ref (c.cls kc))) (tk : Takes X (wx (cW E)))
    (ha : SA c X (cW E) (e :: es) ma) (hg : Gl X x := by rfl) (hdb : (x == ("__debug__" : Str)) = false := by decide) (he : starEach (e :: es) X.env = (false, eval e X.env) :: starEach es X.env := by rfl) (hpl : (backTo pos (starEach es X.env)).any (·.1) = false := by rfl) :
    SE c X (cW E) (.Call (.Name x p) (e :: es) [] pos) (fun ρ => bd (ma ρ) fun ds => callM n m ds) := by
  have F' : FnOk X.prog X.w X.K X.mg X.base (L2.CX X.prog X.w) k g fd ps (PromI c n kc m) := by rw [ha.k]; exact F
  have hb' : Binds X.K fd ps [] := by rw [ha.k]; exact hb
  have M' : Mk X.K (c.cls kc) g := by rw [ha.k]; exact M
  refine ⟨ha.k, PE.imp (pe_make M' F' hr hg hm hb' .nil (passes_wx tk) ha.p hdb he hpl) fun σ H Q ⟨Ψ, ρ, S, Fo, so, eo, q⟩ => ⟨Ψ, ρ, S, Fo, so, eo, q.bd.mono fun ds S1 q1 Ψ1 vs H1 e1 so1 r1 => ?_⟩⟩
  intro a' dx hx hdx ne
  unfold callM at q1
  split at q1
  · rename_i hl _
    rw [List.append_nil]
    exact ⟨Ψ1, S1, ds, H1, a', dx, vs, rfl, hx, hdx, ne, rfl, so1, r1, hl, (q1.ext e1).mono fun d S' q2 Ψ' H' e2 s2 r2 => ⟨rfl, q2 Ψ' _ H' (e1.trans e2) s2 r2⟩⟩
  · exact q1.elim
/-- C(k = v, ..): all by keywords -/
theorem se_makeK {mk : Env → M (List D)} {m : List D → M D} {g : Addr} {fd : FuncData} {ps ks : List Str} {E : XK} {gg : List Value → List Value → List Value} {gV : List V → List V → List V} {gD : List D → List D} (M : Mk c.K (c.cls kc) g) (F : FnOk X.prog X.w c.K X.mg X.base (L2.CX X.prog X.w) k g fd ps (PromI c n kc m)) (hb : KBn c.K fd ps 1 ks gg gV)
    (hgV : ∀ (Ψ : Wd) (v : V) (zs : List V) (ds : List D), Reps c Ψ zs ds → zs.length = ks.length → ∃ ws, gV [v] zs = v :: ws ∧ Reps c Ψ ws (gD ds)) (hr : Room (k + 1) X.A) (hm : X.mg x = some (.ref (c.cls kc))) (tk : Takes X (wx (cW E)))
    (hk : SK c X (cW E) kws mk) (hg : Gl X x := by rfl) (hall : (backToKw pos (keywordEach kws X.env)).all (·.1.isSome) = true := by rfl) (hks : (backToKw pos (keywordEach kws X.env)).filterMap (·.1) = ks := by rfl) (hdb : (x == ("__debug__" : Str)) = false := by decide)
    (hpl : ((backTo pos (starEach [] X.env)).any (·.1) || (backToKw pos (keywordEach kws X.env)).any (·.1.isNone)) = false := by rfl) :
    SE c X (cW E) (.Call (.Name x p) [] kws pos) (fun ρ => bd (mk ρ) fun ds => bd (opt (if ds.length = ks.length then some () else none)) fun _ => callM n m (gD ds)) := by
  have F' : FnOk X.prog X.w X.K X.mg X.base (L2.CX X.prog X.w) k g fd ps (PromI c n kc m) := by rw [hk.k]; exact F
  have hb' : KBn X.K fd ps 1 ks gg gV := by rw [hk.k]; exact hb
  have M' : Mk X.K (c.cls kc) g := by rw [hk.k]; exact M
  refine ⟨hk.k, PE.imp (pe_makeK0 M' F' hr hg hm hb' (passes_wx tk) hk.p hall hks hdb hpl) fun σ H Q ⟨Ψ, ρ, S, Fo, so, eo, q⟩ => ?_⟩
  refine ⟨Ψ, ρ, S, Fo, so, eo, q.bd.mono fun ds S1 q1 Ψ1 zs H1 e1 so1 r1 => ?_⟩
  have q2 := q1.bd
  unfold opt at q2
  split at q2
  · rename_i hl
    split at hl
    · rename_i hl2
      refine ⟨rfl, by rw [r1.length]; exact hl2, fun a' dx hx hdx ne => ?_⟩
      obtain ⟨ws, ew, rw'⟩ := hgV Ψ1 (.ref a') zs ds r1 (by rw [r1.length]; exact hl2)
      have q3 : Post c E Ψ H (callM n m (gD ds) S1) _ := q2
      unfold callM at q3
      split at q3
      · rename_i hl3 _
        rw [ew]
        exact ⟨Ψ1, S1, gD ds, H1, a', dx, ws, rfl, hx, hdx, ne, rfl, so1, rw', hl3, (q3.ext e1).mono fun d S' q2 Ψ' H' e2 s2 r2 => ⟨rfl, q2 Ψ' _ H' (e1.trans e2) s2 r2⟩⟩
      · exact q3.elim
    · cases hl
  · exact q2.elim
/-! ### self.f = e in __init__ -/
def selfM (k i : Nat) (ρ : Env) (v : D) : M Out := fun S => match ρ[0]? with
  | some (Slot.ownI k' fs) => match Nat.decEq k' k with
    | .isTrue _ => if i < fs.length then .ok (.nx (ρ.set 0 (.ownI k' (fs.set i (some v))))) S else .stuck
    | .isFalse _ => .stuck
  | _ => .stuck
theorem ss_self {me : Env → M D} {ad : Addr} {px : Pos} (h : SE c X (cW W) e me) (C : SlX.SCls c.K (c.cls k)) (t : SlX.Slot1 c.K (c.cls k) f ad i) (hN : X.N[0]? = some x := by rfl) (hv : Vis X.env.scope x := by first | exact Or.inl rfl | exact Or.inr (Or.inl rfl) | exact Or.inr (Or.inr rfl)) (hd : (x == ("__debug__" : Str)) = false := by decide)
    (hcd : (x == ("__classdict__" : Str)) = false := by decide) (hs : swapsWith e (some (.Attribute (.Name x px) f pos')) pos.line X.env = pure false := by rfl) :
    SS c X W (.Assign [.Attribute (.Name x px) f pos'] e pos) (fun ρ => bd (me ρ) fun v => selfM k i ρ v) := by
  refine ⟨h.k, PS.imp (SlX.ps_sl (pe_var hN hv hd hcd) h.p hs) fun D σ H ⟨B, Ψ, ρ, S, F, g, q⟩ => ⟨Ψ, ρ, S, F, g.so, g.eo, (q.bd.ext g.x).mono fun v S1 q1 Ψ1 y H1 x1 s1 r1 => ?_⟩⟩
  have g1 := g.ext x1 s1
  unfold selfM at q1
  split at q1
  · rename_i k' fs hs0
    split at q1
    · rename_i ek _
      split at q1
      · rename_i hi
        subst ek
        obtain ⟨a', dx, vs, hF, h1, h2, h3, h4, h5, h6⟩ := g1.eo.slot 0 _ hs0
        refine ⟨.ref a', h1, a', _, dx, ad, vs, i, rfl, h2, h.k ▸ C, h.k ▸ t, ?_⟩
        have ha : a' ∈ F 0 := by rw [hF]; simp
        have hdx : dx ∈ F 0 := by rw [hF]; simp
        have hl : 0 < ρ.length := (List.getElem?_eq_some_iff.mp hs0).1
        -- first the own dict
        have g2 : Gd c B Ψ1 σ (ρ.set 0 (.ownI k' fs)) (L2.upd H1 dx (.xd [])) F S1 := by
          refine g1.upd hs0 hdx ⟨a', dx, vs, hF, h1, ?_, (by rw [upd_same]; exact fun z => nomatch z), h4, h5, h6⟩ fun _ _ _ => ⟨_, _, rfl⟩
          rcases h2 with ⟨z1, z2⟩ | ⟨z1, z2⟩
          · exact .inl ⟨by rw [upd_ne (Ne.symm h4)]; exact z1, z2⟩
          · exact .inr ⟨by rw [upd_ne (Ne.symm h4)]; exact z1, upd_same⟩
        have hs2 : (ρ.set 0 (.ownI k' fs))[0]? = some (.ownI k' fs) := List.getElem?_set_self hl
        have hlen : (SlX.putS i y vs).length ≤ (fs.set i (some v)).length := by
          unfold SlX.putS
          rw [List.length_set, List.length_append, List.length_replicate, List.length_set]
          omega
        have ro : RepsO c Ψ1 (SlX.putS i y vs) (fs.set i (some v)) := fun j d hj => by
          by_cases z : j = i
          · subst z
            rw [List.getElem?_set_self hi] at hj
            cases hj
            exact ⟨y, SlX.putS_get _ _ _, r1⟩
          · rw [List.getElem?_set_ne (Ne.symm z)] at hj
            obtain ⟨v', e1, e2⟩ := h6 j d hj
            exact ⟨v', (SlX.putS_ne z).mpr e1, e2⟩
        have g3 := g2.upd (s' := .ownI k' (fs.set i (some v))) (o := SlX.SlO a' (c.cls k') dx (SlX.putS i y vs)) hs2 ha ⟨a', dx, SlX.putS i y vs, hF, h1, .inr ⟨upd_same, by rw [upd_ne h4, upd_same]⟩, (by rw [upd_ne h4, upd_same]; exact fun z => nomatch z), h4, hlen, ro⟩ fun _ _ _ => ⟨_, _, rfl⟩
        rw [List.set_set] at g3
        exact q1 Ψ1 σ _ F g3
      · exact q1.elim
    · exact q1.elim
  · exact q1.elim
end

/-! ### the law's own def -/
end Sm

/-! text: Sim17 -/
set_option Elab.async false
set_option linter.all false
set_option maxRecDepth 100000
set_option maxHeartbeats 1000000
namespace Sm
open PySem PySem.Spec PyProof.Rows L2
open AutoSeq1 (wpAny_loadPart')
theorem tuple_mul1 (l : Addr) (items : Array Value) (n : Nat) (dd : Option Addr) (sl : Array (Option Value)) (u : Tok) :
    Meets (Builtin.«tuple.__mul__» ⟨[.ref l, .int 1 u], []⟩) (fun _ R s => s.heap.get? l = some { cls := .type "tuple", dict := dd, data := .seq items n, slots := sl } ∧ R (.ok (.ret (Value.ref l))) s) :=
  .of_wp fun prog w A R s h => by
    obtain ⟨hp, g, d, tk, os⟩ := s
    obtain ⟨hl, h⟩ := h
    have f1 := AutoSeq1.idx_int
    have c1 : (items.isEmpty || (1 : Int) == 1) = true := by rw [Bool.or_eq_true]; exact .inr rfl
    wp_walk using wpAny_loadPart' hl
    exact ⟨_, rfl, h⟩
def rRepT1 (K : PySem.W.Frag) : R2 := fun x y H Q => ∃ l xs, x = .ref l ∧ y = .int 1 ∧ SqT K H l xs ∧ Q (.ref l) H
theorem op_repT1 {X : Cx} : OpR X (binaryOp .Mult) (rRepT1 X.K) := by
  intro pins s σ H x y v u Q I rx ry h
  obtain ⟨l, xs, rfl, rfl, hT, q⟩ := h
  cases rx
  obtain ⟨t, rfl⟩ := ry
  obtain ⟨its, r, ⟨⟨cls, dd, data, sl⟩, ho, hc, n, hd⟩, hs⟩ := I.tuple hT
  simp only at hc hd
  subst hc hd
  exact wpAny_binaryOp_repeat_ref (T := "tuple") (U := "int") (by decide) ⟨_, ho, rfl⟩ (fun s' => typeIs_int s' 1 t) noFill_tuple_mul F.fills_int_mul F.slot_int_rmul repeat_tuple F.slot_int_index.lookup
    (call_meets F.slot_int_rmul (typeIs_int s 1 t) F.entry_int_rmul (F.args_int_rmul_2 _ _) (int_rmul_tuple 1 t l its.toArray n dd sl)
      ⟨ho, rfl, ⟨_, ho, rfl⟩, call_meets F.slot_tuple_mul ⟨_, ho, rfl⟩ F.entry_tuple_mul (F.args_tuple_mul_2 _ _) (tuple_mul1 l its.toArray n dd sl t) ⟨ho, ⟨.ref l, H, I, rfl, q⟩⟩⟩)
def mulT1 : D → D → Sto → Option D := fun a b _ => match a, b with
  | .tup ds, .int 1 => some (.tup ds)
  | _, _ => none
theorem v2_mulT1 {c : Cf} : V2 c (rRepT1 c.K) mulT1 := by
  intro Ψ H S x y a b d Q s ra rb e q
  unfold mulT1 at e
  split at e
  · cases e
    obtain ⟨a1, vs, rfl, h1, _, r1⟩ := ra.tup s
    cases rb.int
    exact ⟨a1, vs, rfl, rfl, h1, fin0 s q (ra.rep fun _ z => by cases z)⟩
  · cases e
/-! tuple * 0 -/
theorem tuple_mul0 (l : Addr) (items : Array Value) (n : Nat) (dd : Option Addr) (sl : Array (Option Value)) (u : Tok) (c1 : (items.isEmpty || (0 : Int) == 1) = false) :
    Meets (Builtin.«tuple.__mul__» ⟨[.ref l, .int 0 u], []⟩) (fun _ R s => s.heap.get? l = some { cls := .type "tuple", dict := dd, data := .seq items n, slots := sl } ∧
      R (.ok (.ret (Value.ref s.heap.objs.size))) { s with heap := s.heap.push { cls := Value.type "tuple", data := Data.seq #[] }, toks := s.toks }) :=
  .of_wp fun prog w A R s h => by
    obtain ⟨hp, g, d, tk, os⟩ := s
    obtain ⟨hl, h⟩ := h
    have f1 := AutoSeq1.idx_int
    wp_walk using wpAny_loadPart' hl
    repeat (first
      | (refine wpAny_ite_false (decide_eq_false (by rw [c1]; exact Bool.false_ne_true)) ?_; wp_walk using wpAny_loadPart' hl))
    exact ⟨_, rfl, h⟩
def rRepT0 (K : PySem.W.Frag) : R2 := fun x y H Q => ∃ l xs, x = .ref l ∧ y = .int 0 ∧ SqT K H l xs ∧ xs ≠ [] ∧ ∀ p, H p = none → Q (.ref p) (upd H p (.tup []))
theorem op_repT0 {X : Cx} : OpR X (binaryOp .Mult) (rRepT0 X.K) := by
  intro pins s σ H x y v u Q I rx ry h
  obtain ⟨l, xs, rfl, rfl, hT, hne, q⟩ := h
  cases rx
  obtain ⟨t, rfl⟩ := ry
  obtain ⟨its, r, ⟨⟨cls, dd, data, sl⟩, ho, hc, n, hd⟩, hs⟩ := I.tuple hT
  simp only at hc hd
  subst hc hd
  have hle : its.length = xs.length := r.length.symm
  have hi : its.toArray.isEmpty = false := by
    cases its with
    | nil => exact absurd (List.eq_nil_of_length_eq_zero (l := xs) hle.symm) hne
    | cons a b => rfl
  have c1 : (its.toArray.isEmpty || (0 : Int) == 1) = false := by rw [hi]; rfl
  exact wpAny_binaryOp_repeat_ref (T := "tuple") (U := "int") (by decide) ⟨_, ho, rfl⟩ (fun s' => typeIs_int s' 0 t) noFill_tuple_mul F.fills_int_mul F.slot_int_rmul repeat_tuple F.slot_int_index.lookup
    (call_meets F.slot_int_rmul (typeIs_int s 0 t) F.entry_int_rmul (F.args_int_rmul_2 _ _) (int_rmul_tuple 0 t l its.toArray n dd sl)
      ⟨ho, rfl, ⟨_, ho, rfl⟩, call_meets F.slot_tuple_mul ⟨_, ho, rfl⟩ F.entry_tuple_mul (F.args_tuple_mul_2 _ _) (tuple_mul0 l its.toArray n dd sl t c1) ⟨ho, ⟨.ref s.heap.objs.size, _, I.laid (t' := s.toks) (o := .tup []) (fun b ob q => Heap.get?_push_of_some _ q) (Nat.le_refl _) ⟨by simp [sizeLine_eq], _, .nil, IsTup.new _ _⟩, rfl, q _ (I.hok.fresh (Nat.le_refl _))⟩⟩⟩)
def mulT0 : D → D → Sto → Option D := fun a b _ => match a, b with
  | .tup i, .int 0 => if isNil i then none else some (.tup [])
  | _, _ => none
theorem v2_mulT0 {c : Cf} : V2 c (rRepT0 c.K) mulT0 := by
  intro Ψ H S x y a b d Q s ra rb e q
  unfold mulT0 at e
  split at e
  · split at e
    · cases e
    · rename_i h
      cases e
      obtain ⟨a1, vs, rfl, h1, _, r1⟩ := ra.tup s
      cases rb.int
      refine ⟨a1, vs, rfl, rfl, h1, fun z => ?_, fun p hp => finT s q (by simp) .nil hp⟩
      have z' := r1.nil_iff.mp z
      subst z'
      exact absurd rfl h
  · cases e

/-! ### the rules by one word each -/
def o2 (f : D → D → Sto → Option D) (a b : M D) : M D := bd a fun x => bd b fun y => op2 f x y
def orD (f g : D → D → Sto → Option D) : D → D → Sto → Option D := fun a b S => match f a b S with
  | some d => some d
  | none => g a b S
def addA : D → D → Sto → Option D := orD addI (orD addS addT)
def mulA : D → D → Sto → Option D := orD mulI (orD mulT1 (orD mulT mulT0))
section
variable {c : Cf} {X : Cx} {W : L2.St → XK} {a b e : Expr} {es : List Expr} {pos p : Pos} {ma mb mc : Env → M D} {ms : Env → M (List D)}
theorem se_add (ha : SB c X W a ma) (hb : SB c X W b mb) : SE c X W (.BinOp a .Add b pos) (fun ρ => o2 addA (ma ρ) (mb ρ)) := se_op (op_add.or (op_add_str.or op_catA)) (V2.or v2_addI (V2.or v2_addS (ha.k ▸ v2_addT))) ha hb
theorem se_sub (ha : SB c X W a ma) (hb : SB c X W b mb) : SE c X W (.BinOp a .Sub b pos) (fun ρ => o2 subI (ma ρ) (mb ρ)) := se_op op_sub v2_subI ha hb
theorem se_mul (ha : SB c X W a ma) (hb : SB c X W b mb) : SE c X W (.BinOp a .Mult b pos) (fun ρ => o2 mulA (ma ρ) (mb ρ)) := se_op (op_mul.or (op_repT1.or (op_repT.or op_repT0))) (V2.or v2_mulI (V2.or (ha.k ▸ v2_mulT1) (V2.or (ha.k ▸ v2_mulT) (ha.k ▸ v2_mulT0)))) ha hb
theorem se_mod (ha : SB c X W a ma) (hb : SB c X W b mb) : SE c X W (.BinOp a .Mod b pos) (fun ρ => o2 modI (ma ρ) (mb ρ)) := se_op op_mod v2_modI ha hb
theorem se_eq (hu : X.A.units + 64 < cLine) (ha : SB c X W a ma) (hb : SB c X W b mb) : SE c X W (.Compare a [.Eq] [b] pos) (fun ρ => o2 eqD (ma ρ) (mb ρ)) := se_cmp (op_eqP hu) (ha.k ▸ v2_eqD) ha hb
theorem se_ne (hu : X.A.units + 64 < cLine) (ha : SB c X W a ma) (hb : SB c X W b mb) : SE c X W (.Compare a [.NotEq] [b] pos) (fun ρ => o2 neD (ma ρ) (mb ρ)) := se_cmp (op_neP hu) (ha.k ▸ v2_neD) ha hb
theorem se_lt (ha : SB c X W a ma) (hb : SB c X W b mb) : SE c X W (.Compare a [.Lt] [b] pos) (fun ρ => o2 ltI (ma ρ) (mb ρ)) := se_cmp op_lt v2_ltI ha hb
theorem se_le (ha : SB c X W a ma) (hb : SB c X W b mb) : SE c X W (.Compare a [.LtE] [b] pos) (fun ρ => o2 leI (ma ρ) (mb ρ)) := se_cmp op_le v2_leI ha hb
theorem se_in (hu : X.A.units + 64 < cLine) (ha : SB c X W a ma) (hb : SB c X W b mb) (hm : behindInMarks .In b = false := by first | rfl | with_unfolding_all rfl) : SE c X W (.Compare a [.In] [b] pos) (fun ρ => o2 (inD false) (ma ρ) (mb ρ)) := se_cmp (op_inP hu) (ha.k ▸ v2_inD) ha hb hm
theorem st_eq (hu : X.A.units + 64 < cLine) (ha : SB c X W a ma) (hb : SB c X W b mb) : ST c X W (.Compare a [.Eq] [b] pos) (fun ρ => boolT (o2 eqD (ma ρ) (mb ρ))) := st_cmp (op_eqP hu) (ha.k ▸ v2_eqD) ha hb
theorem st_ne (hu : X.A.units + 64 < cLine) (ha : SB c X W a ma) (hb : SB c X W b mb) : ST c X W (.Compare a [.NotEq] [b] pos) (fun ρ => boolT (o2 neD (ma ρ) (mb ρ))) := st_cmp (op_neP hu) (ha.k ▸ v2_neD) ha hb
theorem st_lt (ha : SB c X W a ma) (hb : SB c X W b mb) : ST c X W (.Compare a [.Lt] [b] pos) (fun ρ => boolT (o2 ltI (ma ρ) (mb ρ))) := st_cmp op_lt v2_ltI ha hb
theorem st_gt (ha : SB c X W a ma) (hb : SB c X W b mb) : ST c X W (.Compare a [.Gt] [b] pos) (fun ρ => boolT (o2 gtI (ma ρ) (mb ρ))) := st_cmp op_gt v2_gtI ha hb
theorem st_ge (ha : SB c X W a ma) (hb : SB c X W b mb) : ST c X W (.Compare a [.GtE] [b] pos) (fun ρ => boolT (o2 geI (ma ρ) (mb ρ))) := st_cmp op_ge v2_geI ha hb
theorem st_in (hu : X.A.units + 64 < cLine) (ha : SB c X W a ma) (hb : SB c X W b mb) (hm : behindInMarks .In b = false := by first | rfl | with_unfolding_all rfl) : ST c X W (.Compare a [.In] [b] pos) (fun ρ => boolT (o2 (inD false) (ma ρ) (mb ρ))) := st_cmp (op_inP hu) (ha.k ▸ v2_inD) ha hb hm
theorem st_nin (hu : X.A.units + 64 < cLine) (ha : SB c X W a ma) (hb : SB c X W b mb) (hm : behindInMarks .NotIn b = false := by first | rfl | with_unfolding_all rfl) : ST c X W (.Compare a [.NotIn] [b] pos) (fun ρ => boolT (o2 (inD true) (ma ρ) (mb ρ))) := st_cmp (op_notInP hu) (ha.k ▸ v2_inD) ha hb hm
/-- chains of ints -/
theorem se_leLe {d : Expr} (ha : SB c X W a ma) (hb : SB c X W b mb) (hd : SB c X W d mc) (h1 : lastMarks [.LtE, .LtE] [b, d] = false := by with_unfolding_all rfl) : SE c X W (.Compare a [.LtE, .LtE] [b, d] pos) (fun ρ => chainM leI leI (ma ρ) (mb ρ) (mc ρ)) := se_chain op_le op_le v2_leI v2_leI ha hb hd h1
/-- built-ins -/
def c1 (f : List D → Sto → Option D) (m : M (List D)) : M D := bd m fun ds => opC f ds
def c1N (f : List D → Sto → Option (List D)) (m : M (List D)) : M (List D) := bd m fun ds => opCN f ds
theorem se_len (ha : SAB c X W (e :: es) ms) (hm : X.mg "len" = none) (hg : Gl X "len" := by rfl) (he : starEach (e :: es) X.env = (false, eval e X.env) :: starEach es X.env := by rfl) (hpl : (backTo pos (starEach es X.env)).any (·.1) = false := by rfl) :
    SE c X W (.Call (.Name "len" p) (e :: es) [] pos) (fun ρ => c1 lenD (ms ρ)) := se_callB call_lenA (ha.k ▸ vc_len) ha hm boot_len hg (by decide) (by decide) he hpl
theorem se_all (ha : SAB c X W (e :: es) ms) (hm : X.mg "all" = none) (hg : Gl X "all" := by rfl) (hc : X.calm = true := by rfl) (he : starEach (e :: es) X.env = (false, eval e X.env) :: starEach es X.env := by rfl) (hpl : (backTo pos (starEach es X.env)).any (·.1) = false := by rfl) :
    SE c X W (.Call (.Name "all" p) (e :: es) [] pos) (fun ρ => c1 allD (ms ρ)) := se_callB (cr_all hc) (ha.k ▸ vc_all) ha hm boot_all hg (by decide) (by decide) he hpl
theorem se_any (ha : SAB c X W (e :: es) ms) (hm : X.mg "any" = none) (hg : Gl X "any" := by rfl) (hc : X.calm = true := by rfl) (he : starEach (e :: es) X.env = (false, eval e X.env) :: starEach es X.env := by rfl) (hpl : (backTo pos (starEach es X.env)).any (·.1) = false := by rfl) :
    SE c X W (.Call (.Name "any" p) (e :: es) [] pos) (fun ρ => c1 anyD (ms ρ)) := se_callB (cr_any hc) (ha.k ▸ vc_any) ha hm boot_any hg (by decide) (by decide) he hpl
theorem se_tuple (ha : SAB c X W (e :: es) ms) (hm : X.mg "tuple" = none) (hg : Gl X "tuple" := by rfl) (he : starEach (e :: es) X.env = (false, eval e X.env) :: starEach es X.env := by rfl) (hpl : (backTo pos (starEach es X.env)).any (·.1) = false := by rfl) :
    SE c X W (.Call (.Name "tuple" p) (e :: es) [] pos) (fun ρ => c1 tupleD (ms ρ)) := se_callTy call_tuple_of (ha.k ▸ vc_tuple) ha hm boot_tuple hg (by decide) (by decide) he hpl
theorem sn_list (ha : SAB c X W (e :: es) ms) (hm : X.mg "list" = none) (hg : Gl X "list" := by rfl) (he : starEach (e :: es) X.env = (false, eval e X.env) :: starEach es X.env := by rfl) (hpl : (backTo pos (starEach es X.env)).any (·.1) = false := by rfl) :
    SN c X W (.Call (.Name "list" p) (e :: es) [] pos) (fun ρ => c1N listD (ms ρ)) := sn_callTy call_list_of (ha.k ▸ vc_list) ha hm boot_list hg (by decide) (by decide) he hpl
theorem se_toInt (ha : SAB c X W (e :: es) ms) (hm : X.mg "int" = none) (hg : Gl X "int" := by rfl) (he : starEach (e :: es) X.env = (false, eval e X.env) :: starEach es X.env := by rfl) (hpl : (backTo pos (starEach es X.env)).any (·.1) = false := by rfl) :
    SE c X W (.Call (.Name "int" p) (e :: es) [] pos) (fun ρ => c1 intD (ms ρ)) := se_callTy call_int1 vc_int ha hm boot_int hg (by decide) (by decide) he hpl
theorem se_abs (ha : SAB c X W (e :: es) ms) (hm : X.mg "abs" = none) (hg : Gl X "abs" := by rfl) (he : starEach (e :: es) X.env = (false, eval e X.env) :: starEach es X.env := by rfl) (hpl : (backTo pos (starEach es X.env)).any (·.1) = false := by rfl) :
    SE c X W (.Call (.Name "abs" p) (e :: es) [] pos) (fun ρ => c1 absD (ms ρ)) := se_callB call_abs vc_abs ha hm (by decide +kernel) hg (by decide) (by decide) he hpl
theorem se_isi (ha : SAB c X W (e :: es) ms) (hm : X.mg "isinstance" = none) (hg : Gl X "isinstance" := by rfl) (he : starEach (e :: es) X.env = (false, eval e X.env) :: starEach es X.env := by rfl) (hpl : (backTo pos (starEach es X.env)).any (·.1) = false := by rfl) :
    SE c X W (.Call (.Name "isinstance" p) (e :: es) [] pos) (fun ρ => c1 isiD (ms ρ)) := se_callB call_isi (ha.k ▸ vc_isi) ha hm (by decide +kernel) hg (by decide) (by decide) he hpl
theorem se_iso {n : Nat} (C : CF c n) (ha : SAB c X W (e :: es) ms) (hm : X.mg "isinstance" = none) (hg : Gl X "isinstance" := by rfl) (he : starEach (e :: es) X.env = (false, eval e X.env) :: starEach es X.env := by rfl) (hpl : (backTo pos (starEach es X.env)).any (·.1) = false := by rfl) :
    SE c X W (.Call (.Name "isinstance" p) (e :: es) [] pos) (fun ρ => c1 (isoD n) (ms ρ)) := se_callB call_iso (ha.k ▸ vc_iso C) ha hm (by decide +kernel) hg (by decide) (by decide) he hpl
end
end Sm

/-! text: Sim18 -/
set_option Elab.async false
set_option linter.all false
set_option maxRecDepth 100000
set_option maxHeartbeats 1000000
namespace Sm
open PySem PySem.Spec PyProof.Rows L2
section
variable {c : Cf} {X : Cx} {W : L2.St → XK} {a b d e : Expr} {es : List Expr} {pos p : Pos} {ma mb mc : Env → M D}
theorem st_chain {op op' : CmpOp} {r r' : R2} {f g : D → D → Sto → Option D} (ho : OpR X (compareOp op) r) (ho' : OpR X (compareOp op') r') (hr : V2 c r f) (hr' : V2 c r' g) (ha : SB c X W a ma) (hb : SB c X W b mb) (hd : SB c X W d mc)
    (h1 : lastMarks [op, op'] [b, d] = false := by with_unfolding_all rfl) : ST c X W (.Compare a [op, op'] [b, d] pos) (fun ρ => boolT (chainM f g (ma ρ) (mb ρ) (mc ρ))) := by
  refine ⟨ha.k, PT.imp (pt_chain ho ho' ha.p hb.p hd.p h1) fun σ H Q ⟨Ψ, ρ, S, F, so, eo, q⟩ => ?_⟩
  refine chain_r hr hr' ⟨Ψ, ρ, S, F, so, eo, q.bd.mono fun x S1 q1 Ψ1 v H1 x1 s1 r1 => ?_⟩
  unfold asB at q1
  split at q1
  · cases r1
    exact ⟨_, rfl, q1 Ψ1 H1 x1 s1⟩
  · exact q1.elim
theorem st_leLt (ha : SB c X W a ma) (hb : SB c X W b mb) (hd : SB c X W d mc) (h1 : lastMarks [.LtE, .Lt] [b, d] = false := by with_unfolding_all rfl) : ST c X W (.Compare a [.LtE, .Lt] [b, d] pos) (fun ρ => boolT (chainM leI ltI (ma ρ) (mb ρ) (mc ρ))) := st_chain op_le op_lt v2_leI v2_ltI ha hb hd h1
/-- x = [.. for .. in ..] on one line -/
theorem ss_setLc {W : XK} {mi : Env → M (List D)} {mt : Env → M Bool} {me : Env → M D} {t : Tg} {elt tg iter : Expr} {ifs : List Expr} {scope : Scope} {own : List (Str × Nat)} {py spos : Pos} {i : Nat} {y : Str} (hi : SIC c X (cW W) tg iter mi) (hN : X.N.Nodup) (ok : BlkOk X.N X.env.scope scope own) (hv : ∀ i ∈ t.is, i ∈ own.map (·.2))
    (hg : ∀ (s : Shared) (H : Hp) (C : Addr) (cl : List (Str × Addr)) (fp : List Addr), SG (X.blk s H scope (compEnvC scope cl C X.env) fp) tg t) (ht : ∀ (s : Shared) (H : Hp) (C : Addr) (cl : List (Str × Addr)) (fp : List Addr), STs c (X.blk s H scope (compEnvC scope cl C X.env) fp) WF ifs mt)
    (he : ∀ (s : Shared) (H : Hp) (C : Addr) (cl : List (Str × Addr)) (fp : List Addr), SE c (X.blk s H scope (compEnvC scope cl C X.env) fp) WF elt me) (hy : X.N[i]? = some y := by rfl) (hyl : X.env.scope.names.lookup y = some .local := by rfl)
    (hk : X.env.scope.kind = .function := by rfl) (hl : (py.line == pos.line) = true := by rfl) (ha : (scope.names.any fun (n, k) => n == y && (k == .local || k == .cell)) = false := by rfl)
    (hc : X.calm = true := by rfl) (hs : ∀ x, foldedSetIterable iter X.env x = pure x := by intro _; rfl) :
    SS c X W (.Assign [.Name y py] (.ListComp elt [⟨tg, iter, ifs, 0⟩] scope pos) spos) (fun ρ => bd (bd (mi ρ) fun ds => noX (lcM (fun d => bindD t d (wipeE ρ (own.map (·.2)))) mt me ds)) fun ds => rt (.nx (ρ.set i (.own ds)))) :=
  ⟨hi.k, PS.imp (ps_setLc hc hN hy hyl (sw_true hk hyl hl ha) hi.p ok (fun s H C cl fp => hi.k ▸ (hg s H C cl fp).p) (fun s H C cl fp => (ht s H C cl fp).p) (fun s H C cl fp => (he s H C cl fp).p) hs) fun D σ H ⟨B, Ψ, ρ, S, F, g, q⟩ =>
    lc_r (W := cW W) hv ⟨Ψ, ρ, S, F, g.so, g.eo, (q.bd.ext g.x).mono fun ds S1 q1 Ψ1 a vs H1 x1 s1 h1 l1 r1 p1 f1 n1 => by
      obtain ⟨F', g'⟩ := g.setN i x1 s1 h1 l1 r1 p1 f1 n1
      exact q1 Ψ1 _ H1 F' g'⟩⟩
end
/-! ### short words for the mirrors -/
def setV (i : Nat) (m : Env → M D) : Env → M Out := fun ρ => bd (m ρ) fun d => rt (.nx (ρ.set i (.val d)))
def setN (i : Nat) (m : Env → M (List D)) : Env → M Out := fun ρ => bd (m ρ) fun ds => rt (.nx (ρ.set i (.own ds)))
def appS (i : Nat) (m : Env → M D) : Env → M Out := fun ρ => bd (ownAt ρ i) fun ds => bd (m ρ) fun d => fun S => if ds.length < LIM then .ok (.nx (ρ.set i (.own (ds ++ [d])))) S else .stuck
def insS (i : Nat) (m : Env → M (List D)) : Env → M Out := fun ρ => bd (ownAt ρ i) fun ds => bd (m ρ) fun as => fun S => match as with
  | [.int k, d] => if ds.length < LIM ∧ 0 ≤ k ∧ k < 100000 then .ok (.nx (ρ.set i (.own (ds.take k.toNat ++ [d] ++ ds.drop k.toNat)))) S else .stuck
  | _ => .stuck
def parS (is : List Nat) (n : Nat) (m : Env → M (List Slot)) : Env → M Out := fun ρ => bd (m ρ) fun ss => fun S => if ss.length = n then .ok (.nx (setsM ρ is ss)) S else .stuck
def asgT (t : Tg) (m : Env → M D) : Env → M Out := fun ρ => bd (m ρ) fun d => match bindD t d ρ with
  | some ρ' => rt (.nx ρ')
  | none => stk
def dsetS (i : Nat) (m mk : Env → M D) : Env → M Out := fun ρ => bd (m ρ) fun v => bd (dctAt ρ i) fun ks => bd (mk ρ) fun k => fun S => match keyD k with
  | some kk => if ks.length < LIM then .ok (.nx (ρ.set i (.ownD (putL ks kk v)))) S else .stuck
  | none => .stuck
def setIx (i : Nat) (m mk : Env → M D) : Env → M Out := fun ρ => bd (m ρ) fun v => bd (opt (match ρ[i]? with
  | some (.val (.ref n)) => some ()
  | some (.own ds) => some ()
  | _ => none)) fun _ => bd (mk ρ) fun k => match k with
  | .int k => setAt ρ i k v
  | _ => stk
def inKDM (vs : List (Str × D)) (m : M D) : M D := bd m fun y => fun S => match y with
  | .str z => .ok (.bl (lkS vs z).isSome) S
  | _ => .stuck
def kidxM (ys : List Str) (m : M D) : M D := bd m fun y => fun S => match y with
  | .str z => match idxS ys z with
    | some j => .ok (.int (j : Nat)) S
    | none => .stuck
  | _ => .stuck
def idxM (o m : M D) : M D := bd o fun d => bd (asL d) fun ds => bd m fun y => opt (idxD (.lst ds) y)
def range1M (m : M (List D)) : M (List D) := bd m fun ds => fun S => match ds with
  | [.int j] => if inI j = true then .ok (rng 0 j.toNat) S else .stuck
  | _ => .stuck
def ownM (d : D) : M (List D) := fun S => match d with
  | .lst ds => .ok ds S
  | _ => .stuck
section
variable {c : Cf} {X : Cx} {W : XK} {pos pos' apos cpos : Pos} {i j l : Nat} {x y z : Str} {a b d e : Expr}
theorem ss_parS {ma : Env → M (List Slot)} {px py pt : Pos} {kt k2 pt2} (ha : SAM c X (cW W) [a, b] ma) (hN : X.N.Nodup) (hi : X.N[i]? = some x := by rfl) (hj : X.N[j]? = some y := by rfl) (hij : i ≠ j := by decide)
    (hx : X.env.scope.names.lookup x = some .local := by rfl) (hy : X.env.scope.names.lookup y = some .local := by rfl)
    (hw : swappedStores [.Tuple [.Name x px, .Name y py] kt pt] (.Tuple [a, b] k2 pt2) X.env = pure (some [x, y]) := by rfl)
    (hs : swapsWithSole [.Tuple [.Name x px, .Name y py] kt pt] (.Tuple [a, b] k2 pt2) pos.line X.env = pure false := by rfl) (hc : X.calm = true := by rfl) :
    SS c X W (.Assign [.Tuple [.Name x px, .Name y py] kt pt] (.Tuple [a, b] k2 pt2) pos) (parS [i, j] 2 ma) := ss_par ha hN hi hj hij hx hy hw hs hc
theorem ss_parS3 {ma : Env → M (List Slot)} {px py pz pt : Pos} {kt k2 pt2} (ha : SAM c X (cW W) [a, b, d] ma) (hN : X.N.Nodup) (hi : X.N[i]? = some x := by rfl) (hj : X.N[j]? = some y := by rfl) (hl : X.N[l]? = some z := by rfl) (hij : i ≠ j := by decide) (hil : i ≠ l := by decide) (hjl : j ≠ l := by decide)
    (hx : X.env.scope.names.lookup x = some .local := by rfl) (hy : X.env.scope.names.lookup y = some .local := by rfl) (hz : X.env.scope.names.lookup z = some .local := by rfl)
    (hw : swappedStores [.Tuple [.Name x px, .Name y py, .Name z pz] kt pt] (.Tuple [a, b, d] k2 pt2) X.env = pure (some [x, y, z]) := by rfl)
    (hs : swapsWithSole [.Tuple [.Name x px, .Name y py, .Name z pz] kt pt] (.Tuple [a, b, d] k2 pt2) pos.line X.env = pure false := by rfl) (hc : X.calm = true := by rfl) :
    SS c X W (.Assign [.Tuple [.Name x px, .Name y py, .Name z pz] kt pt] (.Tuple [a, b, d] k2 pt2) pos) (parS [i, j, l] 3 ma) := ss_par3 ha hN hi hj hl hij hil hjl hx hy hz hw hs hc
end
end Sm

/-! text: Sim81 -/
set_option Elab.async false
set_option linter.all false
set_option maxRecDepth 100000
set_option maxHeartbeats 2000000
namespace Sm
open PySem PySem.Spec PyProof.Rows L2
/-! ### sum of a list of ints -/
theorem boot_sumB : bootBuiltins "sum" = some (.builtin "sum") := by kernel_rfl
theorem sum_list {prog : Program} {w : World} {A : Around} {E : Value → Shared → Prop} {s : Shared} {l : Addr} {its : Array Value} {val : Nat → Int} {Q : Value → Shared → Prop} (hh : A.handled = none) (hl : s.heap.IsList l its)
    (hval : ∀ (i : Nat) (u : Value), its[i]? = some u → ∃ t, u = .int (val i) t)
    (hq : ∀ h' t' k, (∀ b o, s.heap.get? b = some o → h'.get? b = some o) → Q (.int (preSum val its.size) t') { s with heap := h', toks := k }) :
    wpAny (model prog w) A (call (.builtin "sum") [.ref l]) Q E s := by
  have hlt : l < s.heap.objs.size := by obtain ⟨o, ho, _⟩ := hl; exact Heap.lt_size ho
  have W := (Walks.list (prog := prog) (w := w) (A := A.in1) hh s.heap.objs.size l (Nat.ne_of_lt hlt) its).toS
  refine call_sum_walkAnyS (wpAny_pyIter_list hl ?_)
  refine ⟨s.heap.objs.size, _, _, _, _, _, _, val, rfl, W, ⟨⟨_, Heap.get?_push_size _ rfl, rfl, rfl⟩, hl.push _⟩, fun b hb => ?_, fun i v hP => hval i v hP, fun s' t' hm => ?_⟩
  · rcases List.mem_cons.mp hb with rfl | hb
    · exact Heap.lt_size (Heap.get?_push_size _ rfl)
    · obtain rfl := List.mem_singleton.mp hb
      obtain ⟨o, ho, _⟩ := hl
      exact Heap.lt_size (Heap.get?_push_of_some _ ho)
  · obtain ⟨h', g', d', tk', os'⟩ := s'
    have e1 : g' = s.gens := hm.gens
    have e2 : d' = s.drawn := hm.drawn
    have e3 : os' = s.os := hm.os
    subst e1 e2 e3
    exact hq h' t' tk' fun b o e => hm.heap b o (fun hb => absurd (Heap.lt_size e) ((List.mem_singleton.mp hb) ▸ Nat.lt_irrefl _)) (Heap.get?_push_of_some _ e)
def valI : V → Int
  | .int i => i
  | _ => 0
theorem call_sumL {X : Cx} (hc : X.calm = true) : CallR X (.builtin "sum") (fun xs H Q => ∃ (q : Addr) (is : List Int), xs = [.ref q] ∧ SqL X.K H q (is.map V.int) ∧ Q (.int is.sum) H) := by
  intro pins s σ H xs us Q I r h
  obtain ⟨q, is, rfl, hq, q3⟩ := h
  obtain ⟨u, rfl, ru⟩ := r.one
  cases (show u = Value.ref q from ru)
  obtain ⟨its, rv, pl, hsz⟩ := I.list hq
  have hlen : its.length = is.length := by have := rv.length; rw [List.length_map] at this; exact this.symm
  have hval : ∀ (i : Nat) (u : Value), its.toArray[i]? = some u → ∃ t, u = .int ((fun j => (is[j]?).getD 0) i) t := fun i u hu => by
    have hu' : its[i]? = some u := by simpa using hu
    have hi : i < is.length := by
      have := (List.getElem?_eq_some_iff.mp hu').1
      omega
    have hx : (is.map V.int)[i]? = some (.int is[i]) := by rw [List.getElem?_map, List.getElem?_eq_getElem hi]; rfl
    obtain ⟨u2, hu2, rx2⟩ := rv.get hx
    have eu : u2 = u := Option.some.inj (hu2.symm.trans hu')
    subst eu
    obtain ⟨t, rfl⟩ := rx2
    exact ⟨t, by show Value.int is[i] t = Value.int ((is[i]?).getD 0) t; rw [List.getElem?_eq_getElem hi]; rfl⟩
  have hsum : preSum (fun j => (is[j]?).getD 0) its.toArray.size = is.sum := by
    have e1 : its.toArray.size = (is.map V.int).length := by simp only [List.size_toArray, List.length_map]; omega
    have h1 := preSum_list (h := valI) (is.map V.int) (fun j => (is[j]?).getD 0) (fun i x hx => by
      rw [List.getElem?_map] at hx
      cases z : is[i]? with
      | none => rw [z] at hx; cases hx
      | some k => rw [z] at hx; cases hx; rfl) (is.map V.int).length (Nat.le_refl _)
    rw [e1, h1, List.take_length, List.map_map]
    congr 1
    exact List.map_id is
  refine sum_list (val := fun j => (is[j]?).getD 0) (I.ok.hd hc) pl.isList hval fun h' t' k hk => ?_
  rw [hsum]
  exact ⟨.int _, H, I.kept (t' := k) hk, ⟨t', rfl⟩, q3⟩
section
variable {c : Cf}
def intsL : List D → Option (List Int)
  | [] => some []
  | .int i :: r => (intsL r).map (i :: ·)
  | _ => none
theorem ints_reps {Ψ : Wd} : ∀ {ds : List D} {vs : List V} {is : List Int}, Reps c Ψ vs ds → intsL ds = some is → vs = is.map V.int
  | [], vs, is, r, h => by cases r; cases h; rfl
  | d :: ds, vs, is, r, h => by
    cases r with
    | cons rd rr =>
      cases d with
      | int i =>
        obtain ⟨js, hj, rfl⟩ := Option.map_eq_some_iff.mp (show (intsL ds).map (i :: ·) = some is from h)
        cases rd
        rw [ints_reps rr hj]
        rfl
      | _ => cases h
def sumD : List D → Sto → Option D := fun ds _ => match ds with
  | [.lst ds] => (intsL ds).map fun is => .int is.sum
  | _ => none
theorem vc_sum : VC c (fun xs H Q => ∃ (q : Addr) (is : List Int), xs = [.ref q] ∧ SqL c.K H q (is.map V.int) ∧ Q (.int is.sum) H) sumD := by
  intro Ψ H S xs ds d Q s r e q
  unfold sumD at e
  split at e
  · rename_i ds
    obtain ⟨is, hi, rfl⟩ := Option.map_eq_some_iff.mp e
    obtain ⟨v, rfl, r1⟩ := r.one
    obtain ⟨a, vs, rfl, h1, l2, r2⟩ := r1.lst s
    have ev := ints_reps r2 hi
    subst ev
    exact ⟨a, is, rfl, SqL.of h1, fin0 s q (.int _)⟩
  · cases e
end
section
variable {c : Cf} {X : Cx} {W : L2.St → XK} {e : Expr} {es : List Expr} {pos p : Pos} {ms : Env → M (List D)}
theorem se_sum (ha : SAB c X W (e :: es) ms) (hm : X.mg "sum" = none) (hg : Gl X "sum" := by rfl) (hc : X.calm = true := by rfl) (he : starEach (e :: es) X.env = (false, eval e X.env) :: starEach es X.env := by rfl) (hpl : (backTo pos (starEach es X.env)).any (·.1) = false := by rfl) :
    SE c X W (.Call (.Name "sum" p) (e :: es) [] pos) (fun ρ => c1 sumD (ms ρ)) := se_callB (call_sumL hc) (ha.k ▸ vc_sum) ha hm boot_sumB hg (by decide) (by decide) he hpl
end
end Sm

/-! text: Sim22 -/
set_option Elab.async false
set_option linter.all false
set_option maxRecDepth 100000
set_option maxHeartbeats 2000000
namespace HT
open PySem PySem.Spec PyProof.Rows
section
variable {prog : Program} {w : World} {A : Around} {E : Value → Shared → Prop} {s : Shared}
end
end HT

namespace L2
open PySem PySem.Spec PyProof.Rows
end L2

/-! text: Sim23 -/
set_option Elab.async false
set_option linter.all false
set_option maxRecDepth 100000
set_option maxHeartbeats 2000000
namespace Sm
open PySem PySem.Spec PyProof.Rows L2
theorem VCN.or {c : Cf} {r r' : List V → Hp → VK → Prop} {f f' : List D → Sto → Option (List D)} (h : VCN c r f) (h' : VCN c r' f') : VCN c (fun x H Q => r x H Q ∨ r' x H Q) (fun a S => match f a S with | some d => some d | none => f' a S) := by
  intro Ψ H S xs ds d Q s ra e q
  dsimp only at e
  cases z : f ds S with
  | some d' =>
    rw [z] at e
    cases e
    exact .inl (h Ψ H S xs ds _ Q s ra z q)
  | none =>
    rw [z] at e
    exact .inr (h' Ψ H S xs ds _ Q s ra e q)
section
variable {c : Cf} {X : Cx} {W : L2.St → XK} {a b d e : Expr} {es : List Expr} {pos p p2 p3 : Pos} {ma mb mc : Env → M D} {ms : Env → M (List D)}
/-! chains -/
/-! is True -/
/-! a tuple turned about -/
/-! a list turned about -/
def revL (d : D) : M (List D) := fun S => match d with
  | .lst ds => .ok ds.reverse S
  | _ => .stuck
theorem sn_revL {k : Nat} {p1 p2 p3 : Pos} (ha : SB c X W a ma) : SN c X W (.Subscript a (.Slice none none (some (.UnaryOp .USub (.Constant (.int 1) k p1) p2)) p3) pos) (fun ρ => bd (ma ρ) revL) := by
  refine ⟨ha.k, PE.imp (pe_revL ha.p) fun σ H Q ⟨Ψ, ρ, S, F, so, eo, q⟩ => ⟨Ψ, ρ, S, F, so, eo, q.bd.mono fun d S1 q1 Ψ1 x H1 e1 so1 r1 => ?_⟩⟩
  unfold revL at q1
  split at q1
  · obtain ⟨a1, vs, rfl, h1, l, r⟩ := (r1.h (eo.ext e1)).lst so1
    exact ⟨a1, vs, rfl, SqL.of h1, fun p hp => q1 Ψ1 p _ _ (e1.trans (Ext.lay hp)) (so1.lay hp) upd_same (by rw [List.length_reverse]; exact l) r.rev (so1.phiNone hp) (so1.footNone hp) (e1.dom p hp)⟩
  · exact q1.elim
/-! stars -/
def starM (d : D) : M (List D) := fun S => match d with
  | .tup ds => .ok ds S
  | .lst ds => .ok ds S
  | _ => .stuck
def appM (m n : M (List D)) : M (List D) := bd m fun xs => bd n fun ys => rt (xs ++ ys)
theorem sa_star {ms : Env → M (List D)} (h : SB c X W a ma) (t : SA c X W es ms) (hs : starEach (.Starred a p :: es) X.env = (true, eval a X.env) :: starEach es X.env := by rfl) :
    SA c X W (.Starred a p :: es) (fun ρ => appM (bd (ma ρ) starM) (ms ρ)) := by
  refine ⟨h.k, PA.imp (StX.pa_star h.p t.p hs) fun σ H Q ⟨Ψ, ρ, S, F, so, eo, q⟩ => ⟨Ψ, ρ, S, F, so, eo, q.bd.bd.mono fun d S1 q1 Ψ1 x H1 e1 so1 r1 => ?_⟩⟩
  unfold starM at q1
  have rh := r1.h (eo.ext e1)
  have fin : ∀ {xs : List V} {ds : List D}, Reps c Ψ1 xs ds → Post c (W σ) Ψ H (bd (ms ρ) (fun ys => rt (ds ++ ys)) S1) (fun ds S' => ∀ Ψ' vs H', Ext Ψ H Ψ' H' → StoOk c Ψ' H' S' → Reps c Ψ' vs ds → Q vs H') → rA c W ms σ H1 (fun ys H2 => Q (xs ++ ys) H2) := fun {xs ds} rx qq =>
    ⟨Ψ1, ρ, S1, F, so1, eo.ext e1, (Post.ext e1 qq).bd.mono fun ys S2 q2 Ψ2 zs H2 e2 so2 r2 => q2 Ψ2 _ H2 (e1.trans e2) so2 ((rx.mono e2.le).app r2)⟩
  split at q1
  · obtain ⟨a1, vs, rfl, h1, l, r⟩ := rh.tup so1
    exact ⟨a1, vs, rfl, .inl (by rw [h.k]; exact h1), fin r q1⟩
  · obtain ⟨a1, vs, rfl, h1, l, r⟩ := rh.lst so1
    exact ⟨a1, vs, rfl, .inr (SqL.of h1), fin r q1⟩
  · exact q1.elim
end
end Sm

/-! text: Sim24 -/
set_option Elab.async false
set_option linter.all false
set_option maxRecDepth 100000
set_option maxHeartbeats 4000000
namespace Sm
open PySem PySem.Spec PyProof.Rows L2
/-! ### comprehensions with two fors -/
def lc2M (bnd : D → Option Env) (t : Env → M Bool) (it : Env → M (List D)) (bnd1 : Env → D → Option Env) (t1 : Env → M Bool) (e : Env → M D) : List D → M (List D)
  | [] => rt []
  | d :: ds => match bnd d with
    | none => stk
    | some ρ => bd (t ρ) fun b => iteM b (bd (it ρ) fun xs => bd (lcM (bnd1 ρ) t1 e xs) fun ys => bd (lc2M bnd t it bnd1 t1 e ds) fun zs => rt (ys ++ zs)) (lc2M bnd t it bnd1 t1 e ds)
def fitM (m : M (List D)) : M (List D) := bd m fun ys => fun S => if ys.length ≤ 100000 then .ok ys S else .stuck
def few (ds : List D) (m : M (List D)) : M (List D) := fun S => if ds.length ≤ 160 then m S else .stuck
theorem EnvOk.updF {c : Cf} {Ψ : Wd} {σ : L2.St} {ρ : Env} {H : Hp} {F : Nat → List Addr} {a : Addr} {o : HO} (e : EnvOk c Ψ σ ρ H F) (h : ∀ i, a ∉ F i) : EnvOk c Ψ σ ρ (upd H a o) F := by
  refine ⟨e.len, fun i s hs => (e.slot i s hs).keep (Le.refl _) fun b hb u hu => ?_, e.out, fun i b hb => ?_, e.sep⟩
  · have ne : b ≠ a := fun z => h i (by rw [← z]; exact hb)
    rw [upd_ne ne]; exact hu
  · obtain ⟨p1, p2, p3⟩ := e.priv i b hb
    have ne : b ≠ a := fun z => h i (by rw [← z]; exact hb)
    exact ⟨p1, p2, by rw [upd_ne ne]; exact p3⟩
theorem len2_lt {n i j a b : Nat} (hn : n ≤ i * 100000 + j) (hi : i < a) (ha : a ≤ 160) (hj : j < b) (hb : b ≤ 100000) : n < sizeLine := by
  have : n < 16000000 := by omega
  exact Nat.lt_of_lt_of_le this (by decide)
theorem ok0_bd {α β : Type} {m : M α} {f : α → M β} {S : Sto} {R : β → Sto → Prop} (h : Ok0 (m S) fun a S1 => Ok0 (f a S1) R) : Ok0 (bd m f S) R := by
  unfold Sm.bd
  cases e : m S with
  | ok a S1 => rw [e] at h; exact h
  | err k fs S1 => rw [e] at h; exact h.elim
  | stuck => rw [e] at h; exact h.elim
section
variable {c : Cf} {X : Cx} {W : L2.St → XK} {mi mi1 : Env → M (List D)} {mt mt1 : Env → M Bool} {me : Env → M D} {t tg1 : Tg} {vs vs1 : List Nat}
/-- the list that grows; m is what is to come -/
structure Grow2 (c : Cf) (Ψ1 : Wd) (H1 : Hp) (D0 : Addr) (R : List D → Sto → Prop) (m : M (List D)) (n : Nat) (H2 : Hp) : Prop where
  ex : ∃ Ψ2 S2 acc accV, Ext Ψ1 H1 Ψ2 H2 ∧ StoOk c Ψ2 H2 S2 ∧ H2 D0 = some (.lst accV) ∧ Reps c Ψ2 accV acc ∧ accV.length ≤ n ∧ Ψ2.fz D0 = none ∧ ¬ Foot Ψ2 D0 ∧ Ok0 (m S2) fun ys S' => R (acc ++ ys) S'
structure Grow3 (c : Cf) (Ψ1 : Wd) (H1 : Hp) (D0 : Addr) (R : List D → Sto → Prop) (m : M (List D)) (n : Nat) (Ψ5 : Wd) (σ : L2.St) (ρ : Env) (F : Nat → List Addr) (H2 : Hp) : Prop where
  ex : ∃ Ψ2 S2 acc accV, Ext Ψ1 H1 Ψ2 H2 ∧ Le Ψ5 Ψ2 ∧ EnvOk c Ψ2 σ ρ H2 F ∧ StoOk c Ψ2 H2 S2 ∧ H2 D0 = some (.lst accV) ∧ Reps c Ψ2 accV acc ∧ accV.length ≤ n ∧ Ψ2.fz D0 = none ∧ ¬ Foot Ψ2 D0 ∧ Ok0 (m S2) fun ys S' => R (acc ++ ys) S'
theorem lc2_in {W1 : L2.St → XK} (hv1 : ∀ i ∈ tg1.is, i ∈ vs1) {Ψ1 : Wd} {H1 : Hp} {D0 : Addr} {R : List D → Sto → Prop} {M2 : M (List D)} {i a : Nat} {Ψ5 : Wd} {σ : L2.St} {ρ : Env} {F : Nat → List Addr} {H5 : Hp} {J1 : It} {xs : List D} {Nx : Hp → Prop}
    (hi : i < a) (ha : a ≤ 160) (hD : H1 D0 = none) (hF : ∀ i, D0 ∉ F i) (it : ItOk c (fun Ψ2 _ => Le Ψ5 Ψ2) J1 xs)
    (g0 : Grow3 c Ψ1 H1 D0 R (bd (lcM (fun d => bindD tg1 d (wipeE ρ vs1)) mt1 me xs) fun ys => bd M2 fun zs => rt (ys ++ zs)) (i * 100000) Ψ5 σ ρ F H5) (hN : ∀ H, Grow2 c Ψ1 H1 D0 R M2 ((i + 1) * 100000) H → Nx H) :
    ∃ W2 : Nat → Nat → Hp → Prop, (∃ m, W2 0 m H5) ∧ ∀ j k H, W2 j k H →
        (J1.stop j H ∧ Nx H) ∨ (J1.go j H ∧ ∃ Nx1 : Hp → Prop, (∀ H', Nx1 H' → ∃ k', k' < k ∧ W2 (j + 1) k' H') ∧ ∀ x H', J1.yld j H x H' → gTg c.K tg1 x (wipe σ vs1) H' fun σ3 H5 => wipe σ3 vs1 = wipe σ vs1 ∧ rT c WF mt1 σ3 H5 fun b H6 =>
          if b = true then rE c WF me σ3 H6 fun y H7 => ∃ acc, H7 D0 = some (.lst acc) ∧ acc.length < sizeLine ∧ Nx1 (upd H7 D0 (.lst (acc ++ [y]))) else Nx1 H6) := by
  obtain ⟨hl1, G1, Y1, wk1, hG1, hY1⟩ := it
  have hl1' : xs.length ≤ 100000 := hl1
  refine it_gen (H0 := H5) (Qd := Nx) (B := fun x H' Nx1 => gTg c.K tg1 x (wipe σ vs1) H' fun σ3 H5 => wipe σ3 vs1 = wipe σ vs1 ∧ rT c WF mt1 σ3 H5 fun b H6 =>
      if b = true then rE c WF me σ3 H6 fun y H7 => ∃ acc, H7 D0 = some (.lst acc) ∧ acc.length < sizeLine ∧ Nx1 (upd H7 D0 (.lst (acc ++ [y]))) else Nx1 H6)
    wk1 (fun j H6 => Grow3 c Ψ1 H1 D0 R (bd (lcM (fun d => bindD tg1 d (wipeE ρ vs1)) mt1 me (xs.drop j)) fun ys => bd M2 fun zs => rt (ys ++ zs)) (i * 100000 + j) Ψ5 σ ρ F H6) ?_ ?_ ?_ ?_
  · rw [Nat.add_zero, List.drop_zero]
    exact g0
  · rintro j H6 hj ⟨Ψ6, S6, acc, accV, x6, le6, eo6, s6, _⟩
    exact hG1 Ψ6 S6 H6 le6 s6
  · rintro j x H6 H7 hj ⟨Ψ6, S6, acc, accV, x6, le6, eo6, s6, h6, r6, l6, p6, f6, k6⟩ y
    have hd : xs[j]? = some xs[j] := List.getElem?_eq_getElem hj
    obtain ⟨Ψ7, x7, s7, r7⟩ := hY1 j H6 x H7 Ψ6 S6 _ le6 s6 hd y
    have e17 := x6.trans x7
    rw [List.drop_eq_getElem_cons hj] at k6
    have k6' := k6.bd
    unfold lcM at k6'
    obtain ⟨F7, eo7, sub7⟩ := (eo6.ext x7).wipes vs1
    cases hb : bindD tg1 xs[j] (wipeE ρ vs1) with
    | none => rw [hb] at k6'; exact k6'.elim
    | some ρ' =>
      rw [hb] at k6'
      have k7 : Ok0 (bd (mt1 ρ') (fun b => iteM b (bd (me ρ') fun y => bd (lcM (fun d => bindD tg1 d (wipeE ρ vs1)) mt1 me (xs.drop (j + 1))) fun ys => rt (y :: ys)) (lcM (fun d => bindD tg1 d (wipeE ρ vs1)) mt1 me (xs.drop (j + 1)))) S6) _ := k6'
      refine bind_ok s7 eo7 r7 hb fun σ' F'' eo8 _ hw _ => ?_
      refine ⟨(hw vs1 hv1).trans (wipe_wipe fun _ h => h), Ψ7, ρ', S6, F'', s7, eo8, (k7.bd.post).mono fun b S8 q8 Ψ8 H8 x8 s8 => ?_⟩
      have hD7 : H7 D0 = some (.lst accV) := x7.keep _ _ h6 f6
      have fr7 := x7.free p6 f6 (by rw [h6]; exact fun z => nomatch z)
      have hD8 : H8 D0 = some (.lst accV) := x8.keep _ _ hD7 fr7.2
      have fr8 := x8.free fr7.1 fr7.2 (by rw [hD7]; exact fun z => nomatch z)
      have e18 := e17.trans x8
      cases b with
      | false =>
        show if false = true then _ else _
        rw [if_neg Bool.false_ne_true]
        have q8' : Ok0 (lcM (fun d => bindD tg1 d (wipeE ρ vs1)) mt1 me (xs.drop (j + 1)) S8) _ := q8
        refine ⟨Ψ8, S8, acc, accV, e18, le6.trans (x7.le.trans x8.le), eo6.ext (x7.trans x8), s8, hD8, r6.mono (x7.le.trans x8.le), Nat.le_succ_of_le l6, fr8.1, fr8.2, ?_⟩
        show Ok0 (Sm.bd _ _ S8) _
        exact ok0_bd q8'
      | true =>
        show if true = true then _ else _
        rw [if_pos rfl]
        have q9 : Ok0 (bd (me ρ') (fun y => bd (lcM (fun d => bindD tg1 d (wipeE ρ vs1)) mt1 me (xs.drop (j + 1))) fun ys => rt (y :: ys)) S8) _ := q8
        refine ⟨Ψ8, ρ', S8, F'', s8, eo8.ext x8, (q9.bd.post).mono fun dy S9 q10 Ψ9 y9 H9 x9 s9 r9 => ?_⟩
        have hD9 : H9 D0 = some (.lst accV) := x9.keep _ _ hD8 fr8.2
        have fr9 := x9.free fr8.1 fr8.2 (by rw [hD8]; exact fun z => nomatch z)
        have e19 := e18.trans x9
        refine ⟨accV, hD9, len2_lt l6 hi ha hj hl1', Ψ9, S9, acc ++ [dy], accV ++ [y9], e19.upd hD, le6.trans ((x7.le.trans x8.le).trans x9.le), (eo6.ext ((x7.trans x8).trans x9)).updF hF, s9.updF fr9.1 fr9.2, upd_same, (r6.mono ((x7.le.trans x8.le).trans x9.le)).app (.cons r9 .nil), by rw [List.length_append]; exact Nat.succ_le_succ l6, fr9.1, fr9.2, ?_⟩
        refine ok0_bd (q10.bd.mono fun ys S11 q11 => ?_)
        have q12 : Ok0 (bd M2 (fun zs => rt (dy :: ys ++ zs)) S11) _ := q11
        refine ok0_bd (q12.bd.mono fun zs S13 q13 => ?_)
        show R (acc ++ [dy] ++ (ys ++ zs)) S13
        rw [List.append_assoc]
        exact q13
  · rintro H6 ⟨Ψ6, S6, acc, accV, x6, le6, eo6, s6, h6, r6, l6, p6, f6, k6⟩
    rw [List.drop_eq_nil_of_le (Nat.le_refl _)] at k6
    have k7 : Ok0 (bd M2 (fun zs => rt ([] ++ zs)) S6) _ := k6.bd
    refine hN H6 ⟨Ψ6, S6, acc, accV, x6, s6, h6, r6, by omega, p6, f6, k7.bd⟩
theorem lc2_r (hv : ∀ i ∈ t.is, i ∈ vs) (hv1 : ∀ i ∈ tg1.is, i ∈ vs1) {σ : L2.St} {H : Hp} {Q : VK}
    (h : rN c W (fun ρ => bd (mi ρ) fun ds => noX (few ds (fitM (lc2M (fun d => bindD t d (wipeE ρ vs)) mt mi1 (fun ρ d => bindD tg1 d (wipeE ρ vs1)) mt1 me ds)))) σ H Q) :
    tLc2 (rIC c W mi) (gTg c.K t) (rT c WF mt) (rI c WF mi1) (gTg c.K tg1) (rT c WF mt1) (rE c WF me) vs vs1 σ H Q := by
  obtain ⟨Ψ, ρ, S, F, so, eo, q⟩ := h
  refine ⟨Ψ, ρ, S, F, so, eo, q.bd.mono fun ds S1 q1 Ψ1 J H1 e1 so1 it => ?_⟩
  intro D0 hD
  obtain ⟨hl, G, Y, wk, hG, hY⟩ := it
  have q2' : Ok0 (few ds (fitM (lc2M (fun d => bindD t d (wipeE ρ vs)) mt mi1 (fun ρ d => bindD tg1 d (wipeE ρ vs1)) mt1 me ds)) S1) (RN c Ψ H Q) := Post.ok0 q1
  unfold few at q2'
  split at q2'
  case isFalse => exact q2'.elim
  rename_i hfew
  have q3 := Ok0.bd q2'
  obtain ⟨F', eo', sub⟩ := eo.wipes vs
  have hHD : H D0 = none := e1.dom D0 hD
  refine it_gen (H0 := upd H1 D0 (.lst [])) (B := fun x H' Nx => gTg c.K t x (wipe σ vs) H' fun σ2 H2 => wipe σ2 vs = wipe σ vs ∧ rT c WF mt σ2 H2 fun b H3 =>
      if b = true then rI c WF mi1 σ2 H3 fun J1 H4 => ∃ W1 : Nat → Nat → Hp → Prop, (∃ m, W1 0 m H4) ∧ ∀ j k H, W1 j k H →
        (J1.stop j H ∧ Nx H) ∨ (J1.go j H ∧ ∃ Nx1 : Hp → Prop, (∀ H', Nx1 H' → ∃ k', k' < k ∧ W1 (j + 1) k' H') ∧ ∀ x H', J1.yld j H x H' → gTg c.K tg1 x (wipe σ2 vs1) H' fun σ3 H5 => wipe σ3 vs1 = wipe σ2 vs1 ∧ rT c WF mt1 σ3 H5 fun b H6 =>
          if b = true then rE c WF me σ3 H6 fun y H7 => ∃ acc, H7 D0 = some (.lst acc) ∧ acc.length < sizeLine ∧ Nx1 (upd H7 D0 (.lst (acc ++ [y]))) else Nx1 H6)
      else Nx H3)
    wk (fun i H2 => Grow2 c Ψ1 H1 D0 (fun ys S' => Ok0 ((fun S => if ys.length ≤ 100000 then Res.ok ys S else Res.stuck) S') (RN c Ψ H Q)) (lc2M (fun d => bindD t d (wipeE ρ vs)) mt mi1 (fun ρ d => bindD tg1 d (wipeE ρ vs1)) mt1 me (ds.drop i)) (i * 100000) H2) ?_ ?_ ?_ ?_
  · exact ⟨Ψ1, S1, [], [], Ext.lay hD, so1.lay hD, upd_same, .nil, Nat.zero_le _, so1.phiNone hD, so1.footNone hD, q3⟩
  · rintro i H2 hi ⟨Ψ2, S2, acc, accV, x2, s2, _⟩
    exact hG Ψ2 S2 H2 x2 s2
  · rintro i x H2 H3 hi ⟨Ψ2, S2, acc, accV, x2, s2, h2, r2, l2, p2, f2, k2⟩ y
    have hd : ds[i]? = some ds[i] := List.getElem?_eq_getElem hi
    obtain ⟨Ψ3, x3, s3, r3⟩ := hY i H2 x H3 Ψ2 S2 _ x2 s2 hd y
    have e13 := x2.trans x3
    rw [List.drop_eq_getElem_cons hi] at k2
    unfold lc2M at k2
    cases hb : bindD t ds[i] (wipeE ρ vs) with
    | none => rw [hb] at k2; exact k2.elim
    | some ρ' =>
      rw [hb] at k2
      have k3 : Ok0 (bd (mt ρ') (fun b => iteM b (bd (mi1 ρ') fun xs => bd (lcM (fun d => bindD tg1 d (wipeE ρ' vs1)) mt1 me xs) fun ys => bd (lc2M (fun d => bindD t d (wipeE ρ vs)) mt mi1 (fun ρ d => bindD tg1 d (wipeE ρ vs1)) mt1 me (ds.drop (i + 1))) fun zs => rt (ys ++ zs)) (lc2M (fun d => bindD t d (wipeE ρ vs)) mt mi1 (fun ρ d => bindD tg1 d (wipeE ρ vs1)) mt1 me (ds.drop (i + 1)))) S2) _ := k2
      refine bind_ok s3 (eo'.ext (e1.trans e13)) r3 hb fun σ' F'' eo3 sub3 hw _ => ?_
      refine ⟨(hw vs hv).trans (wipe_wipe fun _ h => h), Ψ3, ρ', S2, F'', s3, eo3, (k3.bd.post).mono fun b S4 q4 Ψ4 H4 x4 s4 => ?_⟩
      have hD3 : H3 D0 = some (.lst accV) := x3.keep _ _ h2 f2
      have fr3 := x3.free p2 f2 (by rw [h2]; exact fun z => nomatch z)
      have hD4 : H4 D0 = some (.lst accV) := x4.keep _ _ hD3 fr3.2
      have fr4 := x4.free fr3.1 fr3.2 (by rw [hD3]; exact fun z => nomatch z)
      have e14 := e13.trans x4
      cases b with
      | false =>
        show if false = true then _ else _
        rw [if_neg Bool.false_ne_true]
        exact ⟨Ψ4, S4, acc, accV, e14, s4, hD4, r2.mono (x3.le.trans x4.le), Nat.le_trans l2 (Nat.mul_le_mul_right _ (Nat.le_succ i)), fr4.1, fr4.2, q4⟩
      | true =>
        show if true = true then _ else _
        rw [if_pos rfl]
        have q5 : Ok0 (bd (mi1 ρ') (fun xs => bd (lcM (fun d => bindD tg1 d (wipeE ρ' vs1)) mt1 me xs) fun ys => bd (lc2M (fun d => bindD t d (wipeE ρ vs)) mt mi1 (fun ρ d => bindD tg1 d (wipeE ρ vs1)) mt1 me (ds.drop (i + 1))) fun zs => rt (ys ++ zs)) S4) _ := q4
        have eo4 := eo3.ext x4
        refine ⟨Ψ4, ρ', S4, F'', s4, eo4, (q5.bd.post).mono fun xs S5 q6 Ψ5 J1 H5 x5 s5 it1 => ?_⟩
        have hD5 : H5 D0 = some (.lst accV) := x5.keep _ _ hD4 fr4.2
        have fr5 := x5.free fr4.1 fr4.2 (by rw [hD4]; exact fun z => nomatch z)
        have e15 := e14.trans x5
        have eo5 := eo4.ext x5
        refine lc2_in (W1 := W) (ρ := ρ') (F := F'') (i := i) (a := ds.length) hv1 hi hfew hD (fun k z => (eo.priv k D0 (sub _ _ (sub3 _ _ z))).2.2 hHD) it1 ?_ (fun H g => g)
        exact ⟨Ψ5, S5, acc, accV, e15, Le.refl _, eo5, s5, hD5, r2.mono ((x3.le.trans x4.le).trans x5.le), l2, fr5.1, fr5.2, q6⟩
  · rintro H2 ⟨Ψ2, S2, acc, accV, x2, s2, h2, r2, l2, p2, f2, k2⟩
    rw [List.drop_eq_nil_of_le (Nat.le_refl _)] at k2
    have k3 : Ok0 ((fun S => if (acc ++ []).length ≤ 100000 then Res.ok (acc ++ []) S else Res.stuck) S2) (RN c Ψ H Q) := k2
    rw [List.append_nil] at k3
    dsimp only at k3
    split at k3
    · rename_i hfit
      exact k3 Ψ2 D0 accV H2 (e1.trans x2) s2 h2 (by rw [r2.length]; exact hfit) r2 p2 f2 (e1.dom D0 hD)
    · exact k3.elim
end
section
variable {c : Cf} {X : Cx} {W : L2.St → XK} {mi mi1 : Env → M (List D)} {mt mt1 : Env → M Bool} {me : Env → M D} {t t1 : Tg} {elt tg iter tg1 iter1 : Expr} {ifs ifs1 : List Expr} {scope : Scope} {own : List (Str × Nat)} {vs1 : List Nat} {pos : Pos}
theorem sn_lc2 (hi : SIC c X W tg iter mi) (hN : X.N.Nodup) (ok : BlkOk X.N X.env.scope scope own) (hv : ∀ i ∈ t.is, i ∈ own.map (·.2)) (hv1 : ∀ i ∈ t1.is, i ∈ vs1) (hvv : ∀ i ∈ vs1, i ∈ own.map (·.2))
    (hg : ∀ (s : Shared) (H : Hp) (C : Addr) (cl : List (Str × Addr)) (fp : List Addr), SG (X.blk s H scope (compEnvC scope cl C X.env) fp) tg t) (ht : ∀ (s : Shared) (H : Hp) (C : Addr) (cl : List (Str × Addr)) (fp : List Addr), STs c (X.blk s H scope (compEnvC scope cl C X.env) fp) WF ifs mt)
    (hi1 : ∀ (s : Shared) (H : Hp) (C : Addr) (cl : List (Str × Addr)) (fp : List Addr), SI c (X.blk s H scope (compEnvC scope cl C X.env) fp) WF tg1 iter1 mi1)
    (hg1 : ∀ (s : Shared) (H : Hp) (C : Addr) (cl : List (Str × Addr)) (fp : List Addr), SG (X.blk s H scope (compEnvC scope cl C X.env) fp) tg1 t1) (ht1 : ∀ (s : Shared) (H : Hp) (C : Addr) (cl : List (Str × Addr)) (fp : List Addr), STs c (X.blk s H scope (compEnvC scope cl C X.env) fp) WF ifs1 mt1)
    (he : ∀ (s : Shared) (H : Hp) (C : Addr) (cl : List (Str × Addr)) (fp : List Addr), SE c (X.blk s H scope (compEnvC scope cl C X.env) fp) WF elt me) (hc : X.calm = true := by rfl) (hs : ∀ x, foldedSetIterable iter X.env x = pure x := by intro _; rfl) (hs1 : ∀ env x, foldedSetIterable iter1 env x = pure x := by intro _ _; rfl) :
    SN c X W (.ListComp elt [⟨tg, iter, ifs, 0⟩, ⟨tg1, iter1, ifs1, 0⟩] scope pos) (fun ρ => bd (mi ρ) fun ds => noX (few ds (fitM (lc2M (fun d => bindD t d (wipeE ρ (own.map (·.2)))) mt mi1 (fun ρ d => bindD t1 d (wipeE ρ vs1)) mt1 me ds)))) :=
  ⟨hi.k, PE.imp (pe_lc2 hc hN hi.p ok hvv (fun s H C cl fp => hi.k ▸ (hg s H C cl fp).p) (fun s H C cl fp => (ht s H C cl fp).p) (fun s H C cl fp => (hi1 s H C cl fp).p) (fun s H C cl fp => hi.k ▸ (hg1 s H C cl fp).p) (fun s H C cl fp => (ht1 s H C cl fp).p) (fun s H C cl fp => (he s H C cl fp).p) hs hs1) fun σ H Q h => lc2_r hv hv1 h⟩
end
end Sm

/-! text: Sim25 -/
set_option Elab.async false
set_option linter.all false
set_option maxRecDepth 100000
set_option maxHeartbeats 2000000
namespace Sm
open PySem PySem.Spec PyProof.Rows L2
/-! list(range(a, b)) -/
section
variable {c : Cf} {X : Cx} {WW : L2.St → XK} {a b : Expr} {pos p2 p3 cpos : Pos} {ma mb : Env → M D}
end
/-! which method it is hangs on the receiver's class -/
/-! a, b = x, y where a name is a cell: the tuple is made -/
theorem ss_parC {c : Cf} {X : Cx} {W : XK} {ma : Env → M (List Slot)} {es : List Expr} {tg : Expr} {is : List Nat} {kx} {p pos : Pos} (ha : SAM c X (cW W) es ma) (ht : SG X tg (.tup is)) (hl : is.length ≤ 100000 := by decide)
    (hs : swapsWithSole [tg] (.Tuple es kx p) pos.line X.env = pure false := by rfl) (hw : swappedStores [tg] (.Tuple es kx p) X.env = pure none := by rfl)
    (h1 : (assignEach [tg] X.env).map (·.2) = [assign tg X.env] := by rfl) : SS c X W (.Assign [tg] (.Tuple es kx p) pos) (parS is is.length ma) := by
  refine ⟨ha.k, PS.imp (ps_asg (pe_tup ha.p) ht.p hs hw h1) fun D σ H ⟨B, Ψ, ρ, S, F, g, q⟩ => ⟨Ψ, ρ, S, F, g.so, g.eo, (q.bd.ext g.x).mono fun ss S1 q1 Ψ1 vs As H1 x1 s1 r1 => ?_⟩⟩
  split at q1
  · rename_i h2
    obtain ⟨F', g'⟩ := Gd.setsM (is := is) (fun b hb => g.x.dom b hb) r1 (g.ext x1 s1) fun b hb k hk => (g.eo.priv k b hk).2.2 (r1.mem b hb).1
    have hlen : vs.length = is.length := by rw [r1.len, h2]
    refine ⟨lim_of (by rw [hlen]; exact hl), fun p hp => ?_⟩
    refine ⟨p, vs, rfl, SqT.of upd_same, hlen, ?_⟩
    exact q1 Ψ1 _ _ F' (g'.ext (Ext.lay hp) (s1.lay hp))
  · exact q1.elim
end Sm

/-! text: Sim26 -/
set_option Elab.async false
set_option linter.all false
set_option maxRecDepth 100000
set_option maxHeartbeats 2000000
namespace Sm
open PySem PySem.Spec PyProof.Rows L2
/-! len(o) of an instance whose class has __len__ -/
def rLenOwn (C : Addr) (sp : Sp) (E : XK) : List V → Hp → VK → Prop := fun xs H Q => ∃ a dx vs, xs = [V.ref a] ∧ SlX.Slt H a C dx vs ∧ sp [.ref a] H (fun z H' => ∃ i : Int, z = .int i ∧ (0 ≤ i ∧ i < 2 ^ 63) ∧ Q z H') E
theorem call_lenOwn {X : Cx} {CX : CXT} {C g : Addr} {n : Nat} {sp : Sp} {E : XK} (hs : PySem.W.findIn X.K (.ref C) "__len__" = some (some (.ref g))) (hf : PySem.W.isFn X.K (.ref g) = true) (F : FnR X.prog X.w X.K X.mg X.base CX n g sp) (hr : Room (n + 1) X.A) (hx : Passes CX X E) : CallR X (.builtin "len") (rLenOwn C sp E) := by
  intro pins s σ H xs us Q I r h
  obtain ⟨a, dx, vs, rfl, hsl, q⟩ := h
  obtain ⟨u, rfl, ru⟩ := r.one
  cases (show u = Value.ref a from ru)
  obtain ⟨sl, od, _, J, _⟩ := SlX.slt_inst I hsl
  obtain ⟨m, hF⟩ := I.fr
  refine PySem.W.len_K hF I.ok.mod.kin J hs hf (wpAny_mono (wpAny_call (SlX.run_at (us := [.ref a]) (ws := [.ref a]) F hr.in1 I.env0.in1 hx I (.cons rfl .nil) q)) (fun w s' z => ?_) fun _ _ x => x)
  obtain ⟨z', H', I', rz, i, ei, hi, qz⟩ := z
  subst ei
  obtain ⟨t, e⟩ := (show ∃ t, w = Value.int i t from rz)
  cases e
  exact ⟨hi, .int i, H', I'.tok _, ⟨_, rfl⟩, qz⟩
def lenI (d : D) : M D := fun S => match d with
  | .int i => if 0 ≤ i ∧ i < 100 then .ok (.int i) S else .stuck
  | _ => .stuck
theorem se_lenO {c : Cf} {X : Cx} {W : L2.St → XK} {a : Expr} {me : Env → M D} {g : Addr} {n k : Nat} {m : List D → M D} {p pos : Pos} (h : SE c X W a me) (hm : X.mg "len" = none) (C : SlX.SCls c.K (c.cls k)) (t : Meth c.K (c.cls k) "__len__" g) (G : Fn c X.prog X.w X.mg X.base n g 1 m) (hr : Room (n + 1) X.A)
    (hg : Gl X "len" := by rfl) (he : starEach [a] X.env = (false, eval a X.env) :: starEach [] X.env := by rfl) :
    SE c X W (.Call (.Name "len" p) [a] [] pos) (fun ρ => bd (me ρ) fun d => bd (insM k d) fun d => bd (noX (callM 1 m [d])) lenI) := by
  have G' : FnR X.prog X.w X.K X.mg X.base (L2.CX X.prog X.w) n g (PromF c 1 m) := by rw [h.k]; exact G.r
  refine ⟨h.k, PE.imp (pe_callB (call_lenOwn (C := c.cls k) (E := E0) (by rw [h.k]; exact t.at_) (by rw [h.k]; exact t.fn) G' hr (fun pins σ H s er s' I z => by
    obtain ⟨_, _, _, _, _, _, _, _, _, _, _, _, z⟩ := z
    exact z.elim)) hg hm boot_len (pa_cons h.p pa_nil he) (by decide) (by decide) he) fun σ H Q ⟨Ψ, ρ, S, F, so, eo, q⟩ => ⟨Ψ, ρ, S, F, so, eo, q.bd.mono fun d S1 q1 Ψ1 v H1 x1 s1 r1 => ?_⟩⟩
  have q2 := q1.bd
  unfold insM at q2
  split at q2
  · split at q2
    · rename_i _ fs _ ek _
      subst ek
      have q3 := (show Post c (W σ) Ψ H (bd (noX (callM 1 m [.ins _ fs])) lenI S1) _ from q2).bd
      cases r1 with
      | ins h0 r0 =>
        refine ⟨_, _, _, rfl, slt_phi s1 h0, ?_⟩
        refine prom_of (E := E0) (ds := [.ins _ fs]) s1 (.cons (.ins h0 r0) .nil) ((Post.noX (W' := E0) q3).ext x1) fun d' S' Ψ' v H' q4 e2 s2 r2 => ?_
        unfold lenI at q4
        split at q4
        · split at q4
          · rename_i hb
            cases r2
            exact ⟨_, rfl, by omega, q4 Ψ' _ H' (x1.trans e2) s2 (.int _)⟩
          · exact q4.elim
        · exact q4.elim
    · exact q2.elim
  · exact q2.elim
end Sm

/-! text: Sim27 -/
set_option Elab.async false
set_option linter.all false
set_option maxRecDepth 100000
set_option maxHeartbeats 2000000
namespace Sm
open PySem PySem.Spec PyProof.Rows L2
/-! a == b of two instances of one class with its own __eq__ -/
end Sm

/-! text: Sim28 -/
set_option Elab.async false
set_option linter.all false
set_option maxRecDepth 100000
set_option maxHeartbeats 2000000
namespace Sm
open PySem PySem.SeqAt
open AutoSeq1 (wpAny_loadPart')
open MeetsSeq MeetsSeq2 MeetsSeq3 SeqRoads2
section
variable {prog : Program} {w : World} {A : Around} {R : Result → Shared → Prop}
end
end Sm

/-! text: Sim29 -/
set_option Elab.async false
set_option linter.all false
set_option maxRecDepth 100000
set_option maxHeartbeats 2000000
namespace Sm
open PySem PySem.Spec PyProof.Rows L2
/-- a tuple is read in one way, and is no list -/
structure Uq (K : PySem.W.Frag) (H : Hp) : Prop where
  tt : ∀ p xs ys, SqT K H p xs → SqT K H p ys → xs = ys
  tl : ∀ p xs ys, SqT K H p xs → H p = some (.lst ys) → False
  ss : ∀ a C dx dx' v v', SlX.Slt H a C dx [some v] → SlX.Slt H a C dx' [some v'] → v = v'
end Sm

/-! text: Sim30 -/
set_option Elab.async false
set_option linter.all false
set_option maxRecDepth 100000
set_option maxHeartbeats 2000000
namespace Sm
open PySem PySem.Spec PyProof.Rows L2
end Sm

/-! text: Sim31 -/
set_option Elab.async false
set_option linter.all false
set_option maxRecDepth 100000
set_option maxHeartbeats 2000000
namespace Sm
open PySem PySem.Spec PyProof.Rows L2
end Sm

/-! text: Sim32 -/
set_option Elab.async false
set_option linter.all false
set_option maxRecDepth 100000
set_option maxHeartbeats 2000000
namespace Sm
open PySem PySem.Spec PyProof.Rows L2
end Sm

/-! text: Sim33 -/
set_option Elab.async false
set_option linter.all false
set_option maxRecDepth 100000
set_option maxHeartbeats 2000000
namespace Sm
open PySem PySem.Spec PyProof.Rows L2
section
variable {c : Cf} {X : Cx} {W : XK} {mi mi1 : Env → M (List D)} {mt mt1 : Env → M Bool} {me : Env → M D} {t t1 : Tg} {elt tg iter tg1 iter1 : Expr} {ifs ifs1 : List Expr} {scope : Scope} {own : List (Str × Nat)} {vs1 : List Nat} {pos py spos : Pos} {i : Nat} {y : Str}
/-- name = [e for .. for ..] on one line -/
theorem ss_setLc2 (hi : SIC c X (cW W) tg iter mi) (hN : X.N.Nodup) (ok : BlkOk X.N X.env.scope scope own) (hv : ∀ i ∈ t.is, i ∈ own.map (·.2)) (hv1 : ∀ i ∈ t1.is, i ∈ vs1) (hvv : ∀ i ∈ vs1, i ∈ own.map (·.2))
    (hg : ∀ (s : Shared) (H : Hp) (C : Addr) (cl : List (Str × Addr)) (fp : List Addr), SG (X.blk s H scope (compEnvC scope cl C X.env) fp) tg t) (ht : ∀ (s : Shared) (H : Hp) (C : Addr) (cl : List (Str × Addr)) (fp : List Addr), STs c (X.blk s H scope (compEnvC scope cl C X.env) fp) WF ifs mt)
    (hi1 : ∀ (s : Shared) (H : Hp) (C : Addr) (cl : List (Str × Addr)) (fp : List Addr), SI c (X.blk s H scope (compEnvC scope cl C X.env) fp) WF tg1 iter1 mi1)
    (hg1 : ∀ (s : Shared) (H : Hp) (C : Addr) (cl : List (Str × Addr)) (fp : List Addr), SG (X.blk s H scope (compEnvC scope cl C X.env) fp) tg1 t1) (ht1 : ∀ (s : Shared) (H : Hp) (C : Addr) (cl : List (Str × Addr)) (fp : List Addr), STs c (X.blk s H scope (compEnvC scope cl C X.env) fp) WF ifs1 mt1)
    (he : ∀ (s : Shared) (H : Hp) (C : Addr) (cl : List (Str × Addr)) (fp : List Addr), SE c (X.blk s H scope (compEnvC scope cl C X.env) fp) WF elt me) (hy : X.N[i]? = some y := by rfl) (hyl : X.env.scope.names.lookup y = some .local := by rfl)
    (hk : X.env.scope.kind = .function := by rfl) (hl : (py.line == pos.line) = true := by rfl) (ha : (scope.names.any fun (n, k) => n == y && (k == .local || k == .cell)) = false := by rfl)
    (hc : X.calm = true := by rfl) (hs : ∀ x, foldedSetIterable iter X.env x = pure x := by intro _; rfl) (hs1 : ∀ env x, foldedSetIterable iter1 env x = pure x := by intro _ _; rfl) :
    SS c X W (.Assign [.Name y py] (.ListComp elt [⟨tg, iter, ifs, 0⟩, ⟨tg1, iter1, ifs1, 0⟩] scope pos) spos) (fun ρ => bd (bd (mi ρ) fun ds => noX (few ds (fitM (lc2M (fun d => bindD t d (wipeE ρ (own.map (·.2)))) mt mi1 (fun ρ d => bindD t1 d (wipeE ρ vs1)) mt1 me ds)))) fun ds => rt (.nx (ρ.set i (.own ds)))) :=
  ⟨hi.k, PS.imp (ps_setLc2 hc hN hy hyl (sw_true hk hyl hl ha) hi.p ok hvv (fun s H C cl fp => hi.k ▸ (hg s H C cl fp).p) (fun s H C cl fp => (ht s H C cl fp).p) (fun s H C cl fp => (hi1 s H C cl fp).p) (fun s H C cl fp => hi.k ▸ (hg1 s H C cl fp).p) (fun s H C cl fp => (ht1 s H C cl fp).p) (fun s H C cl fp => (he s H C cl fp).p) hs hs1) fun D σ H ⟨B, Ψ, ρ, S, F, g, q⟩ =>
    lc2_r (W := cW W) hv hv1 ⟨Ψ, ρ, S, F, g.so, g.eo, (q.bd.ext g.x).mono fun ds S1 q1 Ψ1 a vs H1 x1 s1 h1 l1 r1 p1 f1 n1 => by
      obtain ⟨F', g'⟩ := g.setN i x1 s1 h1 l1 r1 p1 f1 n1
      exact q1 Ψ1 _ H1 F' g'⟩⟩
end
end Sm

/-! text: Sim34 -/
set_option Elab.async false
set_option linter.all false
set_option maxRecDepth 100000
set_option maxHeartbeats 2000000
namespace Sm
open PySem PySem.Spec PyProof.Rows L2
/-! != and == of lists of which nothing but the length counts -/
end Sm

/-! text: Sim35 -/
set_option Elab.async false
set_option linter.all false
set_option maxRecDepth 100000
set_option maxHeartbeats 2000000
namespace Sm
open PySem PySem.Spec PyProof.Rows L2
/-! ### tuples of which it is known that they have no dict: t.index(x) -/
section
variable {c : Cf} {X : Cx} {W : L2.St → XK} {e a b : Expr} {es : List Expr} {pos : Pos} {m ma mb : Env → M D}
end
/-! t.index(x) -/
section
variable {X : Cx}
end
section
variable {c : Cf} {X : Cx} {WW : L2.St → XK} {apos cpos : Pos} {e o : Expr} {mo me : Env → M D}
end
end Sm

/-! text: Sim36 -/
set_option Elab.async false
set_option linter.all false
set_option maxRecDepth 100000
set_option maxHeartbeats 2000000
namespace PySem.W
section
variable {prog : Program} {w : World} {A : Around} {E : Value → Shared → Prop} {s : Shared} {K : Frag} {x C f : Addr} {ox : Obj} {od : Option Obj} {b tb : Value}
end
end PySem.W
namespace Sm
open PySem PySem.Spec PyProof.Rows L2
section
variable {X : Cx} {CX : CXT} {C g : Addr} {n : Nat} {sp : Sp} {E : XK}
end
end Sm

/-! text: Sim37 -/
set_option Elab.async false
set_option linter.all false
set_option maxRecDepth 100000
set_option maxHeartbeats 2000000
namespace Sm
open PySem PySem.SeqAt
open AutoSeq1 (wpAny_loadPart')
open MeetsSeq MeetsSeq2 MeetsSeq3 SeqRoads2
section
variable {prog : Program} {w : World} {A : Around} {R : Result → Shared → Prop}
end
end Sm
namespace Sm
open PySem PySem.Spec PyProof.Rows L2
end Sm

/-! text: Sim38 -/
set_option Elab.async false
set_option linter.all false
set_option maxRecDepth 100000
set_option maxHeartbeats 2000000
namespace Sm
open PySem PySem.Spec PyProof.Rows L2
/-! == and != of an instance of a known class and any other instance; the call of an instance -/
theorem CF.nf {c : Cf} {n : Nat} (C : CF c n) {k j : Nat} (hk : k < n) (hj : j < n) : PySem.W.notFirst c.K (c.cls k) (.ref (c.cls j)) = true := by
  have h := C.kt j k hj hk
  unfold PySem.W.kitOne at h
  unfold PySem.W.notFirst
  split at h
  · rename_i e
    rw [e]
    rfl
  · unfold PySem.W.kitCls at h
    dsimp only at h
    split at h
    · by_cases hjk : j = k
      · subst hjk
        rename_i hne _
        exact absurd (by simp) hne
      · rw [decide_eq_false hjk] at h
        rw [h]
        simp
    · cases h
section
variable {c : Cf} {X : Cx} {E : XK} {a b : Expr} {ma mb : Env → M D} {g : Addr} {n nn k : Nat} {m : List D → M D} {pos : Pos}
end
/-- x(..), x an instance -/
theorem se_callO {c : Cf} {X : Cx} {E : XK} {fe e : Expr} {es : List Expr} {mf : Env → M D} {ms : Env → M (List D)} {g : Addr} {k n K1 : Nat} {m : List D → M D} {pos : Pos} (hf : SE c X (cW E) fe mf) (ha : SA c X (cW E) (e :: es) ms) (t : ∃ g', StX.CallO c.K (c.cls k) g') (tm : Meth c.K (c.cls k) "__call__" g) (G : Fn c X.prog X.w X.mg X.base K1 g n m) (hr : Room K1 X.A) (tk : Takes X (wx (cW E)))
    (ht : eval (.Call fe (e :: es) [] pos) X.env = (do callWith pos (← eval fe X.env) [] (backTo pos (starEach (e :: es) X.env)) (backToKw pos (keywordEach [] X.env))) := by rfl)
    (he : starEach (e :: es) X.env = (false, eval e X.env) :: starEach es X.env := by rfl) (hpl : (backTo pos (starEach es X.env)).any (·.1) = false := by rfl) :
    SE c X (cW E) (.Call fe (e :: es) [] pos) (fun ρ => bd (mf ρ) fun d => bd (insM k d) fun d => bd (ms ρ) fun ds => callM n m (d :: ds)) := by
  have G' : FnR X.prog X.w X.K X.mg X.base (L2.CX X.prog X.w) K1 g (PromF c n m) := by rw [hf.k]; exact G.r
  obtain ⟨g', tc⟩ := t
  have eg : g' = g := by
    have := tc.at_.symm.trans tm.at_
    simpa using this
  subst eg
  refine ⟨hf.k, PE.imp (StX.pe_callO hf.p (hf.k ▸ tc) G' hr (passes_wx tk) ha.p ht he hpl) fun σ H Q ⟨Ψ, ρ, S, F, so, eo, q⟩ => ⟨Ψ, ρ, S, F, so, eo, q.bd.mono fun d S1 q1 Ψ1 v H1 x1 s1 r1 => ?_⟩⟩
  have q2 := q1.bd
  unfold insM at q2
  split at q2
  · split at q2
    · rename_i _ fs _ ek _
      subst ek
      have q3 : Post c E Ψ H (bd (ms ρ) (fun ds => callM n m (.ins _ fs :: ds)) S1) _ := q2
      cases r1 with
      | ins h0 r0 =>
        rename_i a dx vs0
        refine ⟨a, rfl, Ψ1, ρ, S1, F, s1, eo.ext x1, (Post.ext x1 q3).bd.mono fun ds S2 q4 Ψ2 vs H2 x2 s2 r2 => ?_⟩
        have h0k := x2.le.slt h0
        refine ⟨.inl ⟨_, _, slt_phi s2 h0k⟩, ?_⟩
        exact prom_of (E := E) (ds := .ins _ fs :: ds) s2 (.cons (.ins h0k (r0.mono x2.le)) r2) (q4.ext x2) fun d' S' Ψ' v H' q6 e2 s3 r3 => q6 Ψ' v H' ((x1.trans x2).trans e2) s3 r3
    · exact q2.elim
  · exact q2.elim
end Sm

/-! text: Sim39 -/
set_option Elab.async false
set_option linter.all false
set_option maxRecDepth 100000
set_option maxHeartbeats 2000000
namespace Sm
open PySem PySem.Spec PyProof.Rows L2
/-! a list that is handed out, and changed where it is handed in -/
section
variable {c : Cf} {X : Cx} {W : XK} {e : Expr} {x : Str} {i : Nat} {pos apos cpos : Pos}
end
end Sm

/-! text: Sim40 -/
set_option Elab.async false
set_option linter.all false
set_option maxRecDepth 100000
set_option maxHeartbeats 2000000
namespace Sm
open PySem PySem.Spec PyProof.Rows L2
/-! != of lists of instances that may lie in the store -/
/-- both can be read, N items each -/
def TwoH (la lb : Addr) (N : Nat) (H : Hp) (XS YS : List V) : Prop := H la = some (.lst XS) ∧ H lb = some (.lst YS) ∧ XS.length = N ∧ YS.length = N
def EqS (K : PySem.W.Frag) (C : Addr) (sp : Sp) (E : XK) (la lb : Addr) (N : Nat) : Nat → Hp → (Bool → Hp → Prop) → Prop
  | 0, H, Q => (∃ XS YS, TwoH la lb N H XS YS) ∧ Q true H
  | k + 1, H, Q => ∃ XS YS a b dx dy vs ws, TwoH la lb N H XS YS ∧ XS[N - (k + 1)]? = some (.ref a) ∧ YS[N - (k + 1)]? = some (.ref b) ∧ SlX.Slt H a C dx vs ∧ SlX.Slt H b C dy ws ∧ (a = b → Uq K H → EqS K C sp E la lb N k H Q) ∧
      (a ≠ b → sp [.ref a, .ref b] H (fun z H' => ∃ r, z = .bl r ∧ (r = true → EqS K C sp E la lb N k H' Q) ∧ (r = false → Q false H' ∧ ∃ XS YS, TwoH la lb N H' XS YS)) E)
theorem EqS.two {K : PySem.W.Frag} {C : Addr} {sp : Sp} {E : XK} {la lb : Addr} {N k : Nat} {H : Hp} {Q : Bool → Hp → Prop} (h : EqS K C sp E la lb N k H Q) : ∃ XS YS, TwoH la lb N H XS YS := by
  cases k with
  | zero => exact h.1
  | succ k =>
    obtain ⟨XS, YS, _, _, _, _, _, _, t, _⟩ := h
    exact ⟨XS, YS, t⟩
/-- the list at la stays ds as long as the store does -/
def RdL (c : Cf) (Ψ : Wd) (H : Hp) (S : Sto) (la : Addr) (ds : List D) : Prop := ∀ Ψ' H', Ext Ψ H Ψ' H' → StoOk c Ψ' H' S → ∃ vs, H' la = some (.lst vs) ∧ Reps c Ψ' vs ds
theorem RdL.ext {c : Cf} {Ψ Ψ' : Wd} {H H' : Hp} {S : Sto} {la : Addr} {ds : List D} (h : RdL c Ψ H S la ds) (x : Ext Ψ H Ψ' H') : RdL c Ψ' H' S la ds := fun Ψ2 H2 x2 s2 => h Ψ2 H2 (x.trans x2) s2
end Sm

/-! text: Sim41 -/
set_option Elab.async false
set_option linter.all false
set_option maxRecDepth 100000
set_option maxHeartbeats 2000000
namespace Sm
open PySem PySem.Spec PyProof.Rows L2
section
variable {c : Cf} {X : Cx} {W : XK} {e : Expr} {x y : Str} {i j : Nat} {pos apos cpos apos2 cpos2 : Pos} {m : Env → M D}
end
end Sm

/-! text: Sim42 -/
set_option Elab.async false
set_option linter.all false
set_option maxRecDepth 100000
set_option maxHeartbeats 2000000
namespace Sm
open PySem PySem.Spec PyProof.Rows L2
section
variable {c : Cf} {X : Cx} {W : L2.St → XK} {a b e : Expr} {es : List Expr} {pos p : Pos} {ma mb : Env → M D} {ms : Env → M (List D)}
end
end Sm

/-! text: Sim43 -/
set_option Elab.async false
set_option linter.all false
set_option maxRecDepth 100000
set_option maxHeartbeats 2000000
namespace Sm
open PySem PySem.Spec PyProof.Rows L2
/-! comparisons by own __eq__, as tests -/
section
variable {c : Cf} {X : Cx} {E : XK} {a b : Expr} {ma mb : Env → M D} {g : Addr} {n nn k : Nat} {m : List D → M D} {pos : Pos}
end
end Sm

/-! text: Sim44 -/
set_option Elab.async false
set_option linter.all false
set_option maxRecDepth 100000
set_option maxHeartbeats 1000000
namespace Sm
open PySem PySem.Spec PyProof.Rows L2
/-! ### own exceptions without fields -/
/-- what is known of an own class of exceptions without an __init__ of its own -/
structure ExC (K : PySem.W.Frag) (C : Addr) : Prop where
  q : PySem.W.excIn K C [.type "ValueError", .type "Exception", .type "BaseException", .type "object"] "ValueError.__new__" = true
  kp : PySem.W.keepIn K (.ref C) = true
  sub : PySem.W.subIn K (.ref C) (.type "BaseException") = some true
  ty : PySem.W.typeIn K (.ref C) = some (.type "type")
section
variable {c : Cf} {X : Cx} {W : XK} {x : Str}
theorem ss_raise {k : Nat} {m : Str} {j : Nat} {p p2 pos pos' : Pos} (E : ExC c.K (c.cls k)) (hk : X.K = c.K) (hm : X.mg x = some (.ref (c.cls k))) (tk : Takes X (wx (cW W)))
    (hg : Gl X x := by rfl) (hc : X.calm = true := by rfl) (hdb : (x == ("__debug__" : Str)) = false := by decide) :
    SS c X W (.Raise (some (.Call (.Name x p) [.Constant (.str m) j p2] [] pos)) none pos') (fun _ => thr k []) := by
  refine ⟨hk, PS.imp (ps_raise hc tk (pmk_own (C := c.cls k) PySem.F.excBase_ValueError (by rw [hk]; exact E.q) hm (by rw [hk]; exact E.kp) (raises_own (by rw [hk]; exact E.sub) (by rw [hk]; exact E.ty)) hg hdb)) fun D σ H ⟨B, Ψ, ρ, S, F, g, q⟩ => ?_⟩
  exact q Ψ none H g.x g.so rfl
/-! ### try: e / except x: .. -/
def TstOk (c : Cf) (C : Addr) (tst : Nat → Option Bool) : Prop := ∀ k b, tst k = some b → PySem.W.exmOne c.K (.ref (c.cls k)) (.ref C) = some b
variable {e : Expr} {me : Env → M D} {mh : Env → M Out} {suite : List Stmt} {b₀ : Stmt} {np rp pos pos' : Pos}
end
/-! ### x.m(..), x a class, m a staticmethod of it -/
structure SMet (K : PySem.W.Frag) (C : Addr) (m : Str) (p g : Addr) : Prop where
  rd : PySem.W.readsIn K C (.type "type") = true
  ga : PySem.W.specialIn K (.ref C) "__getattribute__" = some (some (.builtin "type.__getattribute__"))
  at_ : PySem.W.findCls K (.ref C) (.type "type") m = some (.get (.builtin "staticmethod.__get__") (.ref p) .none (.ref C))
  rc : ∃ rest, PySem.W.recIn K p "staticmethod" = some (.ref g :: rest)
section
variable {c : Cf} {X : Cx} {W : L2.St → XK} {x m : Str} {e : Expr} {es : List Expr} {pos apos np : Pos} {pl : Sem Bool}
theorem pe_static {C p g : Addr} {k n : Nat} {mm : List D → M D} {t : TA} (r : SMet X.K C m p g) (F : Fn c X.prog X.w X.mg X.base k g n mm) (hk : X.K = c.K) (hr : Room k X.A) (hm : X.mg x = some (.ref C)) (tk : Takes X (wx W)) (ha : PA X (e :: es) t)
    (hg : Gl X x := by rfl) (hdb : (x == ("__debug__" : Str)) = false := by decide) (hst : starEach (e :: es) X.env = (false, eval e X.env) :: starEach es X.env := by rfl) (hpl : (backTo pos (starEach es X.env)).any (·.1) = false := by rfl)
    (ht : eval (.Call (.Attribute (.Name x np) m apos) (e :: es) [] pos) X.env = (do
      let ov ← eval (.Name x np) X.env
      standAt apos.atName
      let (f, first) ← holding [ov] (getMethod ov m pl)
      callWith pos f first (backTo pos (starEach (e :: es) X.env)) (backToKw pos (keywordEach [] X.env))) := by rfl) :
    PE X (.Call (.Attribute (.Name x np) m apos) (e :: es) [] pos) (fun σ H Q => t σ H fun vs H1 => PromF c n mm vs H1 Q (W σ)) := by
  refine ⟨fun pins s σ H Q I h => ?_⟩
  obtain ⟨rest, hp⟩ := r.rc
  refine PySem.W.methodCall_KW (pl := pl) (thn ((pe_glob (v := .ref C) hg hm rfl (hd := hdb)).run pins s σ H (fun v H1 => v = .ref C ∧ H1 = H) I ⟨rfl, rfl⟩) fun u s1 ⟨v, H1, I1, rv, ev, eH⟩ => ?_) ht
  subst ev
  subst eH
  obtain rfl : u = Value.ref C := rv
  refine PySem.W.method_cls I1.kIn r.ga (PySem.W.cls_bind I1.kIn r.rd r.at_ (wpAny_call (PySem.W.sm_get (s := { s1 with toks := s1.toks + 1 }) I1.kIn hp (PySem.W.handed_on rfl ?_))))
  have I2 : Inv X pins σ H1 { s1 with toks := s1.toks + 1 } := I1.tok _
  refine PySem.W.callWith_K (h₀ := X.base) I2.ok.mod.kin (by rw [hk]; exact F.kp) (thn (ha.run pos pins _ σ H1 _ I2 h) fun us s3 ⟨vs, H2, I3, r3, q⟩ => ⟨I3.kIn, ?_⟩) hst hpl
  refine wpAny_call (codeAny_mono (F.r X.A X.stack s3 H2 us vs Q (W σ) hr (hk ▸ I3.env0) r3 q) fun r s' hq => ?_)
  cases r with
  | error e => exact tk _ _ (XE.of_call I3 (fun _ _ _ h => h) hq)
  | ok fl =>
    cases fl with
    | ret u => exact I3.after hq
    | next => exact False.elim hq
    | brk => exact False.elim hq
    | cont => exact False.elim hq
theorem se_static {C p g : Addr} {k n : Nat} {mm : List D → M D} {ma : Env → M (List D)} (r : SMet X.K C m p g) (F : Fn c X.prog X.w X.mg X.base k g n mm) (hr : Room k X.A) (hm : X.mg x = some (.ref C)) (tk : Takes X (wx W)) (ha : SA c X W (e :: es) ma)
    (hg : Gl X x := by rfl) (hdb : (x == ("__debug__" : Str)) = false := by decide) (hst : starEach (e :: es) X.env = (false, eval e X.env) :: starEach es X.env := by rfl) (hpl : (backTo pos (starEach es X.env)).any (·.1) = false := by rfl)
    (ht : eval (.Call (.Attribute (.Name x np) m apos) (e :: es) [] pos) X.env = (do
      let ov ← eval (.Name x np) X.env
      standAt apos.atName
      let (f, first) ← holding [ov] (getMethod ov m pl)
      callWith pos f first (backTo pos (starEach (e :: es) X.env)) (backToKw pos (keywordEach [] X.env))) := by rfl) :
    SE c X W (.Call (.Attribute (.Name x np) m apos) (e :: es) [] pos) (fun ρ => bd (ma ρ) fun ds => callM n mm ds) := by
  refine ⟨ha.k, PE.imp (pe_static r F ha.k hr hm tk ha.p hg hdb hst hpl ht) fun σ H Q ⟨Ψ, ρ, S, F, so, eo, q⟩ => ⟨Ψ, ρ, S, F, so, eo, q.bd.mono fun ds S1 q1 Ψ1 vs H1 e1 so1 r1 => ?_⟩⟩
  exact prom_of so1 r1 (q1.ext e1) fun d S' Ψ' v H' q e2 s2 r2 => q Ψ' v H' (e1.trans e2) s2 r2
end
end Sm

/-! text: Sim45 -/
set_option Elab.async false
set_option linter.all false
set_option maxRecDepth 100000
set_option maxHeartbeats 2000000
namespace Sm
open PySem PySem.Spec PyProof.Rows L2 LamX
/-! ### f(lambda: e): the table of code objects may grow -/
section
variable {X : Cx} {pins : List (Addr × Obj)} {σ : L2.St} {H : Hp} {s : Shared}
end
/-! the world behind it -/
/-! the def that asks -/
section
variable {X : Cx} {Ng : List Str} {x a e q : Str} {sg : Scope} {g C : Addr} {cdg : Value} {p1 p2 p3 p4 p5 p6 p7 p8 p9 p0 : Pos} {v n : V} {cv cn : Expr}
end
end Sm

/-! text: Sim46 -/
set_option Elab.async false
set_option linter.all false
set_option maxRecDepth 100000
set_option maxHeartbeats 2000000
namespace Sm
open PySem PySem.Spec PyProof.Rows L2 LamX
/-- the code object of the def at f -/
def cdA (K : PySem.W.Frag) (f : Addr) : Addr := match K.lookup f with
  | some ⟨_, _, .func fd, _⟩ => (match fd.code with
    | .ref c => c
    | _ => 0)
  | _ => 0
/-- .. its table -/
def tbA (K : PySem.W.Frag) (f : Addr) : Addr := He.tabOf K (cdA K f)
abbrev lamQ (qual : Str) : Str := qual ++ ".<locals>." ++ "<lambda>"
/-- what the lambdas in the def at f ask -/
structure LamT (c : Cf) (base : Heap) (mg : Str → Option Value) (f : Addr) (qual : Str) : Prop where
  tb : TabB base mg (cdA c.K f) (tbA c.K f)
  mem : (tbA c.K f, lamQ qual) ∈ c.tb
  uq : ∀ p ∈ c.tb, p.1 = tbA c.K f → p.2 = lamQ qual
section
variable {c : Cf} {P : Program} {w : World} {mg : Str → Option Value} {base : Heap} {x qual : Str} {params : Arguments} {body : List Stmt} {scope : Scope} {dvs : List V} {kws : List (Str × V)} {f : Addr} {fd : FuncData} {N ps : List Str} {k : Nat} {mb : Env → M Out}
end
section
variable {c : Cf} {X : Cx} {W : L2.St → XK} {x a qual : Str} {g f C : Addr} {fd : FuncData} {pg : Arguments} {bg : List Stmt} {sg : Scope} {Ng : List Str} {k : Nat} {params : Arguments} {body : Expr} {scope : Scope} {p lpos pos : Pos} {v n : V} {dv dn : D} {tst : Nat → Option Bool} {mb : Env → M D}
end
end Sm

/-! text: Sim47 -/
set_option Elab.async false
set_option linter.all false
set_option maxRecDepth 100000
set_option maxHeartbeats 2000000
namespace Sm
open PySem PySem.Spec PyProof.Rows L2
/-! ### zip of two lists, of two tuples -/
def zipL : List D → List D → List D
  | x :: xs, y :: ys => .tup [x, y] :: zipL xs ys
  | _, _ => []
theorem zipL_len : ∀ (xs ys : List D), (zipL xs ys).length = min xs.length ys.length
  | [], _ => by simp [zipL]
  | _ :: _, [] => by simp [zipL]
  | x :: xs, y :: ys => by
    have := zipL_len xs ys
    simp only [zipL, List.length_cons]
    omega
theorem zipL_get : ∀ {i : Nat} {xs ys : List D} {d : D}, (zipL xs ys)[i]? = some d → ∃ x y, xs[i]? = some x ∧ ys[i]? = some y ∧ d = .tup [x, y]
  | _, [], _, _, h => by simp [zipL] at h
  | _, _ :: _, [], _, h => by simp [zipL] at h
  | 0, x :: xs, y :: ys, d, h => ⟨x, y, rfl, rfl, by simp [zipL] at h; exact h.symm⟩
  | i + 1, x :: xs, y :: ys, d, h => by
    obtain ⟨a, b, h1, h2, h3⟩ := zipL_get (i := i) (xs := xs) (ys := ys) (d := d) (by simpa [zipL] using h)
    exact ⟨a, b, by simpa using h1, by simpa using h2, h3⟩
theorem walk_zipL {K : PySem.W.Frag} {a b : Addr} {xs ys : List V} : Walk (Itz K a b) (min xs.length ys.length) (fun H => SqL K H a xs ∧ SqL K H b ys) (YPair (fun i => xs[i]?) (fun i => ys[i]?)) := by
  refine ⟨fun i _ hi q => ⟨xs, ys, xs[i]'(by omega), ys[i]'(by omega), q.1, q.2, by simp, by simp⟩, fun _ q => ⟨xs, ys, q.1, q.2, by omega⟩, fun i H v H' _ q y => ?_⟩
  obtain ⟨T, x, z, h1, h2, h3, h4, h5⟩ := y
  exact ⟨T, x, z, h1, h2, h3, h4 xs q.1, h5 ys q.2⟩
theorem walk_zipT {K : PySem.W.Frag} {a b : Addr} {xs ys : List V} : Walk (RZ.ItzT K a b) (min xs.length ys.length) (fun H => SqT K H a xs ∧ SqT K H b ys) (YPair (fun i => xs[i]?) (fun i => ys[i]?)) := by
  refine ⟨fun i _ hi q => ⟨xs, ys, xs[i]'(by omega), ys[i]'(by omega), q.1, q.2, by simp, by simp⟩, fun _ q => ⟨xs, ys, q.1, q.2, by omega⟩, fun i H v H' _ q y => ?_⟩
  obtain ⟨T, x, z, h1, h2, h3, h4, h5⟩ := y
  exact ⟨T, x, z, h1, h2, h3, h4 xs q.1, h5 ys q.2⟩
def zipM (x y : D) : M (List D) := fun S => match x, y with
  | .lst xs, .lst ys => .ok (zipL xs ys) S
  | .tup xs, .tup ys => .ok (zipL xs ys) S
  | _, _ => .stuck
section
variable {c : Cf} {X : Cx} {W : L2.St → XK} {tg e e2 a b : Expr} {pos p tpos : Pos} {elts : List Expr} {kk : Nat}
theorem si_zip {m m2 : Env → M D} (h : SE c X W e m) (h2 : SE c X W e2 m2) (hm : X.mg "zip" = none) (hg : Gl X "zip" := by rfl) (hs : starEach [e, e2] X.env = (false, eval e X.env) :: starEach [e2] X.env := by rfl) (hs2 : starEach [e2] X.env = (false, eval e2 X.env) :: starEach [] X.env := by rfl) (hpl : (backTo pos (starEach [e2] X.env)).any (·.1) = false := by rfl) :
    SI c X W (.Tuple elts kk tpos) (.Call (.Name "zip" p) [e, e2] [] pos) (fun ρ => bd (m ρ) fun x => bd (m2 ρ) fun y => zipM x y) := by
  have ha : PA X [e, e2] (rA c W fun ρ => consM (m ρ) (consM (m2 ρ) (rt []))) := (sa_cons h (sa_cons h2 (sa_nil h.k) (by rw [hs2])) (by rw [hs])).p
  refine ⟨h.k, PI.imp (RZ.pi_zipA hg hm ha hs hpl) fun σ H R ⟨Ψ, ρ, S, F, so, eo, q⟩ => ?_⟩
  refine ⟨Ψ, ρ, S, F, so, eo, ?_⟩
  unfold consM
  have q' := q.bd
  show Post c (W σ) Ψ H (bd (m ρ) (fun x => bd (bd (m2 ρ) fun x => bd (rt []) fun xs => rt (x :: xs)) fun xs => rt (x :: xs)) S) _
  unfold bd
  cases z : m ρ S with
  | stuck => rw [z] at q'; exact q'.elim
  | err k fs S1 => rw [z] at q'; exact q'
  | ok d S1 =>
    rw [z] at q'
    have q1 := (show Post c (W σ) Ψ H (bd (m2 ρ) (fun y => zipM d y) S1) _ from q').bd
    dsimp only
    cases z2 : m2 ρ S1 with
    | stuck => rw [z2] at q1; exact q1.elim
    | err k fs S2 => rw [z2] at q1; exact q1
    | ok d2 S2 =>
      rw [z2] at q1
      have q3 : Post c (W σ) Ψ H (zipM d d2 S2) _ := q1
      show ∀ Ψ' vs H', _ → _ → _ → _
      intro Ψ1 vs H1 x1 s1 r1
      cases r1 with
      | cons r1 t =>
        cases t with
        | cons r2 t =>
          cases t
          have go : ∀ {xs ys : List V} {ds es : List D} {J : It} {G : Hp → Prop}, xs.length ≤ LIM → Reps c Ψ1 xs ds → Reps c Ψ1 ys es → Walk J (min xs.length ys.length) G (YPair (fun i => xs[i]?) (fun i => ys[i]?)) → (∀ Ψ S H, Le Ψ1 Ψ → StoOk c Ψ H S → G H) → ItOk c (fun Ψ2 _ => Le Ψ1 Ψ2) J (zipL ds es) := fun {xs ys ds es J G} l r r' wk hG => by
            refine ⟨by rw [zipL_len, ← r.length]; omega, G, _, by rw [zipL_len, ← r.length, ← r'.length]; exact wk, hG, fun i H2 v H3 Ψ2 S2 d2 l2 s2 hd y => ?_⟩
            obtain ⟨x, y', hx, hy, e⟩ := zipL_get hd
            obtain ⟨T, y1, y2, e1, e2, e3, e4, e5⟩ := y
            obtain ⟨x', h1, h1'⟩ := r.get hx
            obtain ⟨y'', h3, h3'⟩ := r'.get hy
            have e4' : xs[i]? = some y1 := e4
            have e5' : ys[i]? = some y2 := e5
            rw [e4'] at h1; cases h1
            rw [e5'] at h3; cases h3
            subst e e1 e3
            exact pair_new s2 e2 (h1'.mono l2) (h3'.mono l2)
          unfold zipM at q3
          split at q3
          · cases r1 with
            | lst h1 l1 r1 =>
              cases r2 with
              | lst h3 l3 r3 => exact ⟨_, _, _, _, rfl, .inl ⟨SqL.of (s1.phi _ _ h1), SqL.of (s1.phi _ _ h3), q3 Ψ1 _ H1 x1 s1 (go l1 r1 r3 walk_zipL fun Ψ S H l s => ⟨SqL.of (s.phi _ _ (l.phi _ _ h1)), SqL.of (s.phi _ _ (l.phi _ _ h3))⟩)⟩⟩
          · cases r1 with
            | tup h1 l1 r1 =>
              cases r2 with
              | tup h3 l3 r3 => exact ⟨_, _, _, _, rfl, .inr ⟨by rw [h.k]; exact sqT_phi s1 h1, by rw [h.k]; exact sqT_phi s1 h3, q3 Ψ1 _ H1 x1 s1 (go l1 r1 r3 walk_zipT fun Ψ S H l s => ⟨by rw [h.k]; exact sqT_phi s (l.sqT h1), by rw [h.k]; exact sqT_phi s (l.sqT h3)⟩)⟩⟩
          · exact q3.elim
end
/-! ### own operators of two instances -/
section
variable {X : Cx} {C g : Addr} {n : Nat} {sp : Sp} {E : XK} {CX : CXT}
end
section
variable {c : Cf} {X : Cx} {E : XK} {a b : Expr} {ma mb : Env → M D} {g : Addr} {n nn k : Nat} {m : List D → M D} {pos : Pos}
end
end Sm

/-! text: Sim49 -/
set_option Elab.async false
set_option linter.all false
set_option maxRecDepth 100000
set_option maxHeartbeats 1000000
namespace Sm
open PySem PySem.Spec PyProof.Rows L2
end Sm

/-! text: Sim50 -/
set_option Elab.async false
set_option linter.all false
set_option maxRecDepth 100000
set_option maxHeartbeats 1000000
namespace Sm
open PySem PySem.Spec PyProof.Rows L2
/-! ### own exceptions: def __init__(self, x): super().__init__('..'); self.f = x -/
/-- the body of such an __init__ -/
abbrev xiBody (sn xn f m : Str) (j : Nat) (p0 p1 p2 p3 p4 p5 p6 p7 p8 p9 : Pos) : List Stmt :=
  [.Expr (.Call (.Attribute (.Call (.Name "super" p0) [] [] p1) "__init__" p2) [.Constant (.str m) j p3] [] p4) p5, .Assign [.Attribute (.Name sn p6) f p7] (.Name xn p8) p9]
/-- what the rows' places ask -/
structure XiPos (env : PySem.Env) (sn xn f m : Str) (j : Nat) (p0 p1 p2 p3 p4 p5 p6 p7 p8 p9 : Pos) : Prop where
  hi : interactive env = false
  s1 : swapsWith (.Call (.Attribute (.Call (.Name "super" p0) [] [] p1) "__init__" p2) [.Constant (.str m) j p3] [] p4) none p5.line env = pure false
  s2 : swapsWith (.Name xn p8) (some (.Attribute (.Name sn p6) f p7)) p9.line env = pure false
/-- how the first row is read -/
def xiRead (env : PySem.Env) (m : Str) (j : Nat) (p0 p1 p2 p3 p4 : Pos) (pl : Sem Bool) : Prop := eval (.Call (.Attribute (.Call (.Name "super" p0) [] [] p1) "__init__" p2) [.Constant (.str m) j p3] [] p4) env = (do
  let ov ← attributeBase (.Call (.Name "super" p0) [] [] p1) "__init__" env (eval (.Call (.Name "super" p0) [] [] p1) env)
  standAt p2.atName
  let (f, first) ← holding [ov] (getMethod ov "__init__" pl)
  callWith p4 f first (backTo p4 (starEach [.Constant (.str m) j p3] env)) [])
/-- what the written part says of the class and of its __init__ -/
structure XiC (P : Program) (K : PySem.W.Frag) (mg : Str → Option Value) (C fI : Addr) (f : Str) (qual : Str) (fd : FuncData) (sn xn : Str) (cda cc : Addr) : Prop where
  T : OexC K C
  su : PySem.W.ks_superIn K C C "__init__" = some (some (.builtin "ValueError.__init__"))
  ei : PySem.W.excInitIn K C [.type "ValueError", .type "Exception", .type "BaseException", .type "object"] "ValueError.__new__" = true
  sv : PySem.W.subIn K (.ref C) (.type "ValueError") = some true
  sm : PySem.W.mroIn K C (.ref C) = some true
  no : PySem.W.findIn K (.ref C) f = some none
  op : PySem.W.nsIn K cStatics "thirdparty.any" = some none
  s0 : mg "super" = none
  ic : PySem.W.findIn K (.ref C) "__init__" = some (some (.ref fI))
  ti : PySem.W.typeIn K (.ref fI) = some (.type "function")
  fn : ∃ oc od osl, K.lookup fI = some ⟨oc, od, .func fd, osl⟩
  sh : ∃ name params scope dV kV doc pm an ct m j p0 p1 p2 p3 p4 p5 p6 p7 p8 p9, fd = PySem.W.ksFn name qual params (xiBody sn xn f m j p0 p1 p2 p3 p4 p5 p6 p7 p8 p9) scope dV kV doc pm an (.ref cda) ct cc ∧
    (∃ ar, (params.posonlyargs ++ params.args).head? = some ar ∧ ar.arg = sn) ∧ scope.names.lookup ("super" : Str) = some .globalImplicit ∧ scope.names.lookup ("__class__" : Str) = some .free ∧ scope.names.lookup sn = some .local ∧ scope.names.lookup xn = some .local ∧
    scope.kind = .function ∧ (∀ x ∈ scope.names, x.2 ≠ .cell) ∧ scope.isCoroutine = false ∧ scope.isGenerator = false ∧ ∀ L, XiPos (callEnv fd L fI) sn xn f m j p0 p1 p2 p3 p4 p5 p6 p7 p8 p9 ∧ ∃ pl, xiRead (callEnv fd L fI) m j p0 p1 p2 p3 p4 pl
  bd : L2.Binds K fd [sn, xn] []
  ne : sn ≠ xn ∧ (sn == ("__debug__" : Str)) = false ∧ (xn == ("__debug__" : Str)) = false
  co : PySem.W.codeIn K (.ref cda) qual = true
  cd : ∃ ccl cdd vs ccs file tf, K.lookup cda = some ⟨ccl, cdd, .fields vs, ccs⟩ ∧ vs[2]? = some (.str file tf) ∧ ((P.main.file : Str) == file) = true
  cl : ∃ cl cld csl, K.lookup cc = some ⟨cl, cld, .cell (some (.ref C)), csl⟩
  tp : (P.main.scope.names.lookup ("super" : Str)).isSome = false
section
variable {P : Program} {w : World} {K : PySem.W.Frag} {mg : Str → Option Value} {C fI : Addr} {f qual sn xn : Str} {fd : FuncData} {cda cc : Addr}
end
end Sm

/-! text: Sim51 -/
set_option Elab.async false
set_option linter.all false
set_option maxRecDepth 100000
set_option maxHeartbeats 1000000
namespace Sm
open PySem PySem.Spec PyProof.Rows L2
section
variable {X : Cx} {x : Str} {C fI : Addr} {f qual sn xn : Str} {fd : FuncData} {cda cc : Addr} {e : Expr} {es : List Expr} {ta : TA} {p pos : Pos}
end
end Sm

/-! text: Sim52 -/
set_option Elab.async false
set_option linter.all false
set_option maxRecDepth 100000
set_option maxHeartbeats 2000000
namespace Sm
open PySem PySem.Spec PyProof.Rows L2
/-! ### raise C(e), C an own exception with one field -/
end Sm

/-! text: Sim53 -/
set_option Elab.async false
set_option linter.all false
set_option maxRecDepth 100000
set_option maxHeartbeats 4000000
namespace Sm
open PySem PySem.Spec PyProof.Rows L2
/-! ### several except clauses, each with a name or without -/
abbrev HTS := Addr → Value → Option Addr → TS
/-- the suite of a clause -/
def SuOk (X : Cx) (su : List Stmt) (ts : HTS) : Prop := ∀ (a : Addr) (oe : Obj) (cls : Value) (d : Option Addr) (pn : List (Addr × Obj)), Zc cls d oe → (∃ vs, oe.data = .fields vs) → PSs (X.suite a ((a, oe) :: pn)) su (ts a cls d)
inductive HdN (X : Cx) : List ExceptHandler → List (Value × Option Nat × HTS) → Prop
  | nil : HdN X [] []
  | plain {x : Str} {c : Value} {ts : HTS} {b₀ : Stmt} {su : List Stmt} {np hp : Pos} {hds : List ExceptHandler} {l : List (Value × Option Nat × HTS)} (hc : Names X x c) (hsu : SuOk X (b₀ :: su) ts) (r : HdN X hds l) : HdN X (.ExceptHandler (some (.Name x np)) none (b₀ :: su) hp :: hds) ((c, none, ts) :: l)
  | named {x n : Str} {i : Nat} {c : Value} {ts : HTS} {b₀ : Stmt} {su : List Stmt} {np hp : Pos} {hds : List ExceptHandler} {l : List (Value × Option Nat × HTS)} (hc : Names X x c) (hN : X.N.Nodup) (hi : X.N[i]? = some n) (hn : X.env.kindOf n = some .local) (hsu : SuOk X (b₀ :: su) ts) (r : HdN X hds l) :
      HdN X (.ExceptHandler (some (.Name x np)) (some n) (b₀ :: su) hp :: hds) ((c, some i, ts) :: l)
section
variable {X : Cx} {body : List Stmt} {h₀ : ExceptHandler} {hds : List ExceptHandler} {l : List (Value × Option Nat × HTS)} {pos : Pos} {tb : WX → TS} {Wo : WX}
end
end Sm

/-! text: Sim54 -/
set_option Elab.async false
set_option linter.all false
set_option maxRecDepth 100000
set_option maxHeartbeats 2000000
namespace Sm
open PySem PySem.Spec PyProof.Rows L2 LamX
/-! ### what an except clause gives back: a constant, the error's field, a text with it -/
inductive HA where
  | con (v : V)
  | fld (i : Nat) (f : Str)
  | tup (i : Nat) (z f : Str)
def haSlot : HA → Option Nat
  | .con _ => none
  | .fld i _ => some i
  | .tup i _ _ => some i
def haTS (C : Addr) : HA → HTS
  | .con v => fun _ _ _ D _ H => D.rt v H
  | .fld i f => fun a cls d D σ H => tXf a cls d C f (tVar i) σ H D.rt
  | .tup i z f => fun a cls d D σ H => tTup (tCons (tC (.str z)) (tCons (tXf a cls d C f (tVar i)) tNil)) σ H D.rt
/-- the clauses, by what they give back -/
inductive HdA (X : Cx) : List ExceptHandler → List (Addr × HA) → Prop
  | nil : HdA X [] []
  | con {x : Str} {C : Addr} {v : V} {e : Expr} {np hp rp : Pos} {hds : List ExceptHandler} {l : List (Addr × HA)} (hc : Names X x (.ref C)) (hv : ∀ Y, PE Y e (tC v)) (r : HdA X hds l) : HdA X (.ExceptHandler (some (.Name x np)) none [.Return (some e) rp] hp :: hds) ((C, .con v) :: l)
  | fld {x n f : Str} {i : Nat} {C : Addr} {np hp rp p1 p2 : Pos} {hds : List ExceptHandler} {l : List (Addr × HA)} (hc : Names X x (.ref C)) (hN : X.N.Nodup) (hi : X.N[i]? = some n) (hn : X.env.kindOf n = some .local) (T : XfC X.K C) (hno : PySem.W.findIn X.K (.ref C) f = some none)
      (hd : (n == ("__debug__" : Str)) = false) (hcd : (n == ("__classdict__" : Str)) = false) (hb : ∀ Y : Cx, attributeBase (.Name n p1) f Y.env (eval (.Name n p1) Y.env) = eval (.Name n p1) Y.env) (r : HdA X hds l) :
      HdA X (.ExceptHandler (some (.Name x np)) (some n) [.Return (some (.Attribute (.Name n p1) f p2)) rp] hp :: hds) ((C, .fld i f) :: l)
  | tup {x n f z : Str} {i j k2 : Nat} {C : Addr} {np hp rp p1 p2 p3 p4 : Pos} {hds : List ExceptHandler} {l : List (Addr × HA)} (hc : Names X x (.ref C)) (hN : X.N.Nodup) (hi : X.N[i]? = some n) (hn : X.env.kindOf n = some .local) (T : XfC X.K C) (hno : PySem.W.findIn X.K (.ref C) f = some none)
      (hd : (n == ("__debug__" : Str)) = false) (hcd : (n == ("__classdict__" : Str)) = false) (hb : ∀ Y : Cx, attributeBase (.Name n p1) f Y.env (eval (.Name n p1) Y.env) = eval (.Name n p1) Y.env) (r : HdA X hds l) :
      HdA X (.ExceptHandler (some (.Name x np)) (some n) [.Return (some (.Tuple [.Constant (.str z) j p3, .Attribute (.Name n p1) f p2] k2 p4)) rp] hp :: hds) ((C, .tup i z f) :: l)
theorem HdA.n {X : Cx} : ∀ {hds : List ExceptHandler} {l : List (Addr × HA)}, HdA X hds l → HdN X hds (l.map fun p => (.ref p.1, haSlot p.2, haTS p.1 p.2))
  | _, _, .nil => .nil
  | _, _, .con hc hv r => .plain hc (fun a oe cls d pn _ _ => pss_one (ps_ret (hv _))) r.n
  | _, _, .fld hc hN hi hn T hno hd hcd hb r => .named hc hN hi hn (fun a oe cls d pn hz hf => pss_one (ps_ret (pe_xf T hno hz hf (pe_var hi (.inl hn) hd hcd) (hb _)))) r.n
  | _, _, .tup hc hN hi hn T hno hd hcd hb r => .named hc hN hi hn (fun a oe cls d pn hz hf => pss_one (ps_ret (pe_tup (pa_cons pe_str (pa_cons (pe_xf T hno hz hf (pe_var hi (.inl hn) hd hcd) (hb _)) pa_nil))))) r.n
/-! the def that asks -/
section
variable {X : Cx} {Ng : List Str} {x a q : Str} {sg : Scope} {g : Addr} {cdg : Value} {p1 p2 p3 p8 p9 : Pos} {n : V} {cn : Expr} {h₀ : ExceptHandler} {hds : List ExceptHandler} {l : List (Addr × HA)}
end
/-! its mirror -/
inductive HD where
  | con (d : D)
  | fld (f : Str)
  | tup (z f : Str)
/-- a clause and its mirror -/
inductive HdM (c : Cf) : (Addr × HA) → ((Nat → Option Bool) × HD) → Prop
  | con {C : Addr} {v : V} {d : D} {t : Nat → Option Bool} (hx : TstOk c C t) (r : ∀ Ψ, Rep c Ψ v d) : HdM c (C, .con v) (t, .con d)
  | fld {C : Addr} {i : Nat} {f : Str} {t : Nat → Option Bool} (hx : TstOk c C t) (ho : ∀ k, t k = some true → c.cls k = C) : HdM c (C, .fld i f) (t, .fld f)
  | tup {C : Addr} {i : Nat} {z f : Str} {t : Nat → Option Bool} (hx : TstOk c C t) (ho : ∀ k, t k = some true → c.cls k = C) : HdM c (C, .tup i z f) (t, .tup z f)
inductive HdMs (c : Cf) : List (Addr × HA) → List ((Nat → Option Bool) × HD) → Prop
  | nil : HdMs c [] []
  | cons {a b l m} (h : HdM c a b) (t : HdMs c l m) : HdMs c (a :: l) (b :: m)
end Sm

/-! text: Sim55 -/
set_option Elab.async false
set_option linter.all false
set_option maxRecDepth 100000
set_option maxHeartbeats 2000000
namespace Sm
open PySem PySem.Spec PyProof.Rows L2 LamX
section
variable {c : Cf} {X : Cx} {W : L2.St → XK} {x a qual : Str} {g f : Addr} {fd : FuncData} {pg : Arguments} {bg : List Stmt} {sg : Scope} {Ng : List Str} {k : Nat} {params : Arguments} {body : Expr} {scope : Scope} {p lpos pos : Pos} {n : V} {dn : D} {mb : Env → M D} {l : List (Addr × HA)} {ms : List ((Nat → Option Bool) × HD)}
end
end Sm

/-! text: Sim56 -/
set_option Elab.async false
set_option linter.all false
set_option maxRecDepth 100000
set_option maxHeartbeats 1000000
namespace Sm
open PySem PySem.Spec PyProof.Rows L2
section
variable {c : Cf} {X : Cx} {W : XK} {pos p : Pos} {k kc n np : Nat} {x : Str} {e : Expr} {es : List Expr} {kws : List Keyword}
/-- C(e, ..): the keyword-only parameters have their defaults -/
theorem se_makeD {ma : Env → M (List D)} {m : List D → M D} {g : Addr} {fd : FuncData} {ps : List Str} {E : XK} {ds : List Value} {dvs : List V} {des : List D} (M : Mk c.K (c.cls kc) g) (F : FnOk X.prog X.w c.K X.mg X.base (L2.CX X.prog X.w) k g fd ps (PromI c n kc m)) (hb : Binds c.K fd ps ds) (hd : Vals dvs ds) (rd : ∀ Ψ, Reps c Ψ dvs des)
    (hr : Room (k + 1) X.A) (hm : X.mg x = some (.ref (c.cls kc))) (tk : Takes X (wx (cW E)))
    (ha : SA c X (cW E) (e :: es) ma) (hg : Gl X x := by rfl) (hdb : (x == ("__debug__" : Str)) = false := by decide) (he : starEach (e :: es) X.env = (false, eval e X.env) :: starEach es X.env := by rfl) (hpl : (backTo pos (starEach es X.env)).any (·.1) = false := by rfl) :
    SE c X (cW E) (.Call (.Name x p) (e :: es) [] pos) (fun ρ => bd (ma ρ) fun as => callM n m (as ++ des)) := by
  have F' : FnOk X.prog X.w X.K X.mg X.base (L2.CX X.prog X.w) k g fd ps (PromI c n kc m) := by rw [ha.k]; exact F
  have hb' : Binds X.K fd ps ds := by rw [ha.k]; exact hb
  have M' : Mk X.K (c.cls kc) g := by rw [ha.k]; exact M
  refine ⟨ha.k, PE.imp (pe_make M' F' hr hg hm hb' hd (passes_wx tk) ha.p hdb he hpl) fun σ H Q ⟨Ψ, ρ, S, Fo, so, eo, q⟩ => ⟨Ψ, ρ, S, Fo, so, eo, q.bd.mono fun as S1 q1 Ψ1 vs H1 e1 so1 r1 => ?_⟩⟩
  intro a' dx hx hdx ne
  unfold callM at q1
  split at q1
  · rename_i hl _
    exact ⟨Ψ1, S1, as ++ des, H1, a', dx, vs ++ dvs, rfl, hx, hdx, ne, rfl, so1, r1.app (rd Ψ1), hl, (q1.ext e1).mono fun d S' q2 Ψ' H' e2 s2 r2 => ⟨rfl, q2 Ψ' _ H' (e1.trans e2) s2 r2⟩⟩
  · exact q1.elim
/-- C(e, .., k = v, ..) -/
theorem se_makePK {ma mk : Env → M (List D)} {m : List D → M D} {g : Addr} {fd : FuncData} {ps ks : List Str} {E : XK} {gg : List Value → List Value → List Value} {gV : List V → List V → List V} {gD : List D → List D → List D} (M : Mk c.K (c.cls kc) g) (F : FnOk X.prog X.w c.K X.mg X.base (L2.CX X.prog X.w) k g fd ps (PromI c n kc m)) (hb : KBn c.K fd ps (np + 1) ks gg gV)
    (hgV : ∀ (Ψ : Wd) (v : V) (vs zs : List V) (es ds : List D), Reps c Ψ vs es → Reps c Ψ zs ds → vs.length = np → zs.length = ks.length → ∃ ws, gV (v :: vs) zs = v :: ws ∧ Reps c Ψ ws (gD es ds)) (hr : Room (k + 1) X.A) (hm : X.mg x = some (.ref (c.cls kc))) (tk : Takes X (wx (cW E)))
    (ha : SA c X (cW E) (e :: es) ma) (hk : SK c X (cW E) kws mk) (hg : Gl X x := by rfl) (hall : (backToKw pos (keywordEach kws X.env)).all (·.1.isSome) = true := by rfl) (hks : (backToKw pos (keywordEach kws X.env)).filterMap (·.1) = ks := by rfl) (hdb : (x == ("__debug__" : Str)) = false := by decide)
    (he : starEach (e :: es) X.env = (false, eval e X.env) :: starEach es X.env := by rfl) (hpl : ((backTo pos (starEach (e :: es) X.env)).any (·.1) || (backToKw pos (keywordEach kws X.env)).any (·.1.isNone)) = false := by rfl) :
    SE c X (cW E) (.Call (.Name x p) (e :: es) kws pos) (fun ρ => bd (ma ρ) fun as => bd (mk ρ) fun zs => bd (opt (if as.length = np ∧ zs.length = ks.length then some () else none)) fun _ => callM n m (gD as zs)) := by
  have F' : FnOk X.prog X.w X.K X.mg X.base (L2.CX X.prog X.w) k g fd ps (PromI c n kc m) := by rw [hk.k]; exact F
  have hb' : KBn X.K fd ps (np + 1) ks gg gV := by rw [hk.k]; exact hb
  have M' : Mk X.K (c.cls kc) g := by rw [hk.k]; exact M
  refine ⟨hk.k, PE.imp (L2.pe_makeK M' F' hr hg hm hb' (passes_wx tk) ha.p hk.p hall hks hdb he hpl) fun σ H Q ⟨Ψ, ρ, S, Fo, so, eo, q⟩ => ?_⟩
  refine ⟨Ψ, ρ, S, Fo, so, eo, q.bd.mono fun as S1 q1 Ψ1 vs H1 e1 so1 r1 => ⟨Ψ1, ρ, S1, Fo, so1, eo.ext e1, (q1.ext e1).bd.mono fun zd S2 q2 Ψ2 zs H2 e2 so2 r2 => ?_⟩⟩
  have q3 := q2.bd
  unfold opt at q3
  split at q3
  · rename_i hl
    split at hl
    · rename_i hl2
      have lv : vs.length = np := by rw [r1.length]; exact hl2.1
      have lz : zs.length = ks.length := by rw [r2.length]; exact hl2.2
      refine ⟨lv, lz, fun a' dx hx hdx ne => ?_⟩
      obtain ⟨ws, ew, rw'⟩ := hgV Ψ2 (.ref a') vs zs as zd (r1.mono e2.le) r2 lv lz
      have q4 : Post c E Ψ1 H1 (callM n m (gD as zd) S2) _ := q3
      unfold callM at q4
      split at q4
      · rename_i hl3 _
        rw [ew]
        exact ⟨Ψ2, S2, gD as zd, H2, a', dx, ws, rfl, hx, hdx, ne, rfl, so2, rw', hl3, (q4.ext e2).mono fun d S' q5 Ψ' H' e3 s3 r3 => ⟨rfl, q5 Ψ' _ H' ((e1.trans e2).trans e3) s3 r3⟩⟩
      · exact q4.elim
    · cases hl
  · exact q3.elim
end
end Sm

/-! text: Sim57 -/
set_option Elab.async false
set_option linter.all false
set_option maxRecDepth 100000
set_option maxHeartbeats 1000000
namespace Sm
open PySem PySem.Spec PyProof.Rows L2
section
variable {c : Cf} {X : Cx} {W : XK} {e o : Expr} {pos apos cpos : Pos}
end
end Sm

/-! text: Sim58 -/
set_option Elab.async false
set_option linter.all false
set_option maxRecDepth 100000
set_option maxHeartbeats 2000000
namespace Sm
open PySem PySem.Spec PyProof.Rows L2 LamX
/-! ### an asker that makes something of the answer: try: x = a(); return e / except .. -/
section
variable {c : Cf} {X : Cx} {Ng : List Str} {x x1 a q : Str} {sg : Scope} {g : Addr} {cdg : Value} {p0 p1 p2 p3 p4 p8 : Pos} {e : Expr} {me : Env → M D} {h₀ : ExceptHandler} {hds : List ExceptHandler} {l : List (Addr × HA)}
end
section
variable {c : Cf} {X : Cx} {W : L2.St → XK} {x a qual : Str} {g f : Addr} {fd : FuncData} {pg : Arguments} {bg : List Stmt} {sg : Scope} {Ng : List Str} {k : Nat} {params : Arguments} {body : Expr} {scope : Scope} {p lpos pos : Pos} {mb me : Env → M D} {l : List (Addr × HA)} {ms : List ((Nat → Option Bool) × HD)}
end
end Sm

/-! text: Sim59 -/
set_option Elab.async false
set_option linter.all false
set_option maxRecDepth 100000
set_option maxHeartbeats 2000000
namespace PySem.W
open PySem PySem.Calls PyProof.Rows Builtin
section
variable {prog : Program} {w : World} {A : Around} {E : Value → Shared → Prop} {s : Shared} {K : Frag} {x C L f : Addr} {h₀ : Heap} {m : Str → Option Value} {ox : Obj} {od : Option Obj}
end
end PySem.W
namespace Sm
open PySem PySem.Spec PyProof.Rows L2
/-! ### abs(o) of an instance whose class has __abs__ -/
/-! ### constants of the module: tuples of tuples -/
def all2B (f : Value → D → Bool) : List Value → List D → Bool
  | [], [] => true
  | v :: vs, d :: ds => f v d && all2B f vs ds
  | _, _ => false
def cstB (K : PySem.W.Frag) : Nat → Value → D → Bool
  | _, .none, .non => true
  | _, .bool b, .bl b' => decide (b = b')
  | _, .int i _, .int j => decide (i = j)
  | _, .str z _, .str y => decide (z = y)
  | n + 1, .ref a, .tup ds => (match K.lookup a with
    | some ⟨.type cn, none, .seq its _, _⟩ => decide (cn = "tuple") && (decide (its.size ≤ 1000) && all2B (cstB K n) its.toList ds)
    | _ => false)
  | _, _, _ => false
end Sm

/-! text: Sim60 -/
set_option Elab.async false
set_option linter.all false
set_option maxRecDepth 100000
set_option maxHeartbeats 4000000
namespace PySem.W
open PySem PySem.Calls PyProof.Rows Builtin
section
variable {prog : Program} {w : World} {A : Around} {E : Value → Shared → Prop} {s : Shared} {K : Frag} {x C L f : Addr} {h₀ : Heap} {m : Str → Option Value} {ox : Obj} {od : Option Obj} {T : String}
end
end PySem.W
namespace Sm
open PySem PySem.Spec PyProof.Rows L2
/-! ### -o, o[i], o op b: own methods -/
section
variable {c : Cf} {X : Cx} {E : XK} {a b : Expr} {ma mb : Env → M D} {g : Addr} {n k : Nat} {m : List D → M D} {pos : Pos}
/-- what the types know of the op, seen from the class -/
structure BinT (K : PySem.W.Frag) (C : Addr) (op : Operator) (T : String) : Prop where
  sf : PySem.W.selfFirst K C = true
  hr : PySem.W.findIn K (.ref C) (dunderR op.info.2) = some none
  fo : ∃ fo, PySem.W.findIn K (.type T) (PySem.dunder op.info.2) = some fo
  ro : ∃ ro, PySem.W.findIn K (.type T) (dunderR op.info.2) = some ro
  sub : PySem.W.subIn K (.type T) (.ref C) = some false
/-- an index that stands plainly, for an own __getitem__ -/
def PlainO (b : Expr) : Prop := ∀ o i, subscripted b true o i = runValue (.builtin "lifetime.subscript" ⟨[o, i], []⟩)
theorem pe_ixO {CX : CXT} {C : Addr} {sp : Sp} {ta tb : TE} (hs : PySem.W.findIn X.K (.ref C) "__getitem__" = some (some (.ref g))) (hf : PySem.W.isFn X.K (.ref g) = true) (hfn : PySem.W.fnIn X.K g = true) (F : FnR X.prog X.w X.K X.mg X.base CX n g sp)
    (hr : Room (n + 1) X.A) (hx : Passes CX X E) (ha : PE X a ta) (hb : PE X b tb) (hp : PlainO b) :
    PE X (.Subscript a b pos) (fun σ H Q => ta σ H fun x H1 => tb σ H1 fun y H2 => ∃ q dx vs, x = .ref q ∧ SlX.Slt H2 q C dx vs ∧ sp [x, y] H2 Q E) := by
  refine ⟨fun pins s σ H Q I h => ?_⟩
  refine Subscript_ (binT ha hb I (R := fun x y H2 => ∃ q dx vs, x = .ref q ∧ SlX.Slt H2 q C dx vs ∧ sp [x, y] H2 Q E) h fun v u s2 x y H2 I2 rx ry q => ?_)
  obtain ⟨a1, dx, vs, rfl, hsl, q⟩ := q
  cases (show v = Value.ref a1 from rx)
  obtain ⟨sl, od, _, J, _⟩ := SlX.slt_inst I2 hsl
  obtain ⟨m, hF⟩ := I2.fr
  exact PySem.W.sub_K hF I2.ok.mod.kin J hs hfn hf (wpAny_mono (wpAny_call (SlX.run_at (us := [.ref a1, u]) (ws := [.ref a1, y]) F hr.in1 I2.env0.in1 hx I2 (.cons rfl (.cons ry .nil)) q)) (fun w s' z => z) fun _ _ x => x) (hp _ _)
theorem se_ixO (ha : SE c X (cW E) a ma) (hb : SE c X (cW E) b mb) (t : Meth c.K (c.cls k) "__getitem__" g) (hfn : PySem.W.fnIn c.K g = true) (G : Fn c X.prog X.w X.mg X.base n g 2 m) (hr : Room (n + 1) X.A) (tk : Takes X (wx (cW E))) (hp : PlainO b := by exact fun _ _ => rfl) :
    SE c X (cW E) (.Subscript a b pos) (fun ρ => bd (ma ρ) fun x => bd (mb ρ) fun y => bd (insM k x) fun x => callM 2 m [x, y]) := by
  have G' : FnR X.prog X.w X.K X.mg X.base (L2.CX X.prog X.w) n g (PromF c 2 m) := by rw [ha.k]; exact G.r
  refine ⟨ha.k, PE.imp (pe_ixO (C := c.cls k) (by rw [ha.k]; exact t.at_) (by rw [ha.k]; exact t.fn) (by rw [ha.k]; exact hfn) G' hr (passes_wx tk) ha.p hb.p hp) fun σ H Q ⟨Ψ, ρ, S, F, so, eo, q⟩ => ⟨Ψ, ρ, S, F, so, eo, q.bd.mono fun x S1 q1 Ψ1 v H1 x1 s1 r1 => ?_⟩⟩
  refine ⟨Ψ1, ρ, S1, F, s1, eo.ext x1, (Post.bd (Post.ext x1 q1)).mono fun y S2 q2 Ψ2 u H2 x2 s2 r2 => ?_⟩
  have q3 := q2.bd
  unfold insM at q3
  split at q3
  · split at q3
    · rename_i _ fs _ ek _
      subst ek
      have q5 : Post c E Ψ1 H1 (callM 2 m [.ins _ fs, y] S2) _ := q3
      cases r1 with
      | ins h0 r0 =>
        have h0k := x2.le.slt h0
        refine ⟨_, _, _, rfl, slt_phi s2 h0k, ?_⟩
        exact prom_of (E := E) (ds := [.ins _ fs, y]) s2 (.cons (.ins h0k (r0.mono x2.le)) (.cons r2 .nil)) (q5.ext x2) fun d' S' Ψ' v H' q6 e2 s3 r3 => q6 Ψ' v H' ((x1.trans x2).trans e2) s3 r3
    · exact q3.elim
  · exact q3.elim
section
variable {nn : Nat}
end
theorem fi_of {K : PySem.W.Frag} {C g : Addr} {nm : Str} (t : Meth K C nm g) (h : ∃ g, PySem.W.findIn K (.ref C) nm = some (some (.ref g)) ∧ PySem.W.fnIn K g = true) : PySem.W.fnIn K g = true := by
  obtain ⟨g', h1, h2⟩ := h
  have e := h1.symm.trans t.at_
  simp only [Option.some.injEq, Value.ref.injEq] at e
  subst e
  exact h2
end
end Sm

/-! text: Sim61 -/
set_option Elab.async false
set_option linter.all false
set_option maxRecDepth 100000
set_option maxHeartbeats 4000000
namespace Sm
open PySem PySem.Spec PyProof.Rows L2 LamX
/-! ### try: .. / except clauses that give back a constant, the error's field or a pair with it, in a def without lambda -/
section
variable {c : Cf} {X : Cx} {W : XK} {body : List Stmt} {h₀ : ExceptHandler} {hds : List ExceptHandler} {mb : Env → M Out} {l : List (Addr × HA)} {ms : List ((Nat → Option Bool) × HD)} {pos : Pos}
end
end Sm

/-! text: Sim62 -/
set_option Elab.async false
set_option linter.all false
set_option maxRecDepth 100000
set_option maxHeartbeats 4000000
namespace Sm
open PySem PySem.Spec PyProof.Rows L2
/-! ### instances that change: shared, by number -/
def Wd.shareI (Ψ : Wd) (a dx : Addr) : Wd := ⟨Ψ.fz, Ψ.sh ++ [(a, dx)], Ψ.tb⟩
section
variable {c : Cf} {Ψ Ψ' : Wd} {H H' : Hp} {S : Sto} {a dx : Addr}
theorem shI_get {i : Nat} {q : Addr × Addr} (e : (Ψ.sh ++ [(a, dx)])[i]? = some q) : Ψ.sh[i]? = some q ∨ (i = Ψ.sh.length ∧ q = (a, dx)) := by
  by_cases z : i < Ψ.sh.length
  · rw [List.getElem?_append_left z] at e; exact .inl e
  · rw [List.getElem?_append_right (by omega)] at e
    have hn : i - Ψ.sh.length = 0 := by
      have := (List.getElem?_eq_some_iff.mp e).1
      simpa using this
    rw [hn] at e
    exact .inr ⟨by omega, (Option.some.inj e).symm⟩
theorem shI_foot {b : Addr} (h : Foot (Ψ.shareI a dx) b) : Foot Ψ b ∨ b = a ∨ b = dx := by
  rcases Or.symm h with h | ⟨n, p, h1, h2⟩
  · exact .inl (.inr h)
  rcases shI_get (show (Ψ.sh ++ [(a, dx)])[n]? = some p from h1) with g | ⟨_, rfl⟩
  · exact .inl (.inl ⟨n, p, g, h2⟩)
  · exact .inr h2
theorem Le.shareI : Le Ψ (Ψ.shareI a dx) := ⟨fun _ _ h => h, fun n p h => by
  show (Ψ.sh ++ [(a, dx)])[n]? = _
  rw [List.getElem?_append_left (List.getElem?_eq_some_iff.mp h).1]
  exact h, rfl⟩
theorem Ext.shareI (x : Ext Ψ H Ψ' H') (n : H a = none) (n2 : H dx = none) : Ext Ψ H (Ψ'.shareI a dx) H' :=
  ⟨x.le.trans Le.shareI, x.dom, x.nphi, fun b f => by
    rcases shI_foot f with f | rfl | rfl
    · exact x.nmu b f
    · exact .inr n
    · exact .inr n2, x.keep⟩
theorem StoOk.shareI {k : Nat} {vs : List V} {ds : List D} (s : StoOk c Ψ H S) (h : SlX.Slt H a (c.cls k) dx (vs.map some)) (ne : dx ≠ a) (hd : H dx ≠ none) (p : Ψ.fz a = none) (p2 : Ψ.fz dx = none) (f : ¬ Foot Ψ a) (f2 : ¬ Foot Ψ dx) (r : Reps c Ψ vs ds) : StoOk c (Ψ.shareI a dx) H (S ++ [.ins k ds]) where
  phi := s.phi
  off := fun n q o h1 h2 h3 => by
    by_cases z : n < S.length
    · rw [List.getElem?_append_left z] at h2
      have h1' : (Ψ.sh ++ [(a, dx)])[n]? = some q := h1
      rw [List.getElem?_append_left (by rw [s.len]; exact z)] at h1'
      exact s.off n q o h1' h2 h3
    · have h1' : (Ψ.sh ++ [(a, dx)])[n]? = some q := h1
      rw [List.getElem?_append_right (by rw [s.len]; omega)] at h1'
      have hn : n - Ψ.sh.length = 0 := by
        have := (List.getElem?_eq_some_iff.mp h1').1
        simpa using this
      rw [hn] at h1'
      cases h1'
      exact ⟨p, p2⟩
  offT := s.offT
  nd := fun i j q1 q2 h1 h2 n => by
    have no : ∀ {i : Nat} {q : Addr × Addr}, Ψ.sh[i]? = some q → q.1 ≠ a ∧ q.1 ≠ dx ∧ q.2 ≠ a ∧ q.2 ≠ dx := fun {i q} e =>
      ⟨fun z => f (.inl ⟨i, q, e, .inl z.symm⟩), fun z => f2 (.inl ⟨i, q, e, .inl z.symm⟩), fun z => f (.inl ⟨i, q, e, .inr z.symm⟩), fun z => f2 (.inl ⟨i, q, e, .inr z.symm⟩)⟩
    rcases shI_get h1 with k1 | ⟨k1, rfl⟩ <;> rcases shI_get h2 with k2 | ⟨k2, rfl⟩
    · exact s.nd i j q1 q2 k1 k2 n
    · obtain ⟨g1, g2, g3, g4⟩ := no k1
      exact ⟨g1, g2, g3, g4⟩
    · obtain ⟨g1, g2, g3, g4⟩ := no k2
      exact ⟨g1.symm, g3.symm, g2.symm, g4.symm⟩
    · omega
  len := by
    show (Ψ.sh ++ [(a, dx)]).length = _
    rw [List.length_append, List.length_append, s.len]; rfl
  tbc := s.tbc
  tab := s.tab
  tnd := fun t ht n q hq => by
    rcases shI_get (show (Ψ.sh ++ [(a, dx)])[n]? = some q from hq) with g | ⟨_, rfl⟩
    · exact s.tnd t ht n q g
    · exact ⟨fun z => f (.inr ⟨t.2, by rw [show a = t.1 from z]; exact ht⟩), fun z => f2 (.inr ⟨t.2, by rw [show dx = t.1 from z]; exact ht⟩)⟩
  obj := fun n o e => by
    by_cases z : n < S.length
    · rw [List.getElem?_append_left z] at e
      obtain ⟨q, h1, h2⟩ := s.obj n o e
      refine ⟨q, Le.shareI.mu n q h1, ?_⟩
      cases o with
      | lst ds => obtain ⟨vs, x1, x2, x3, x4⟩ := h2; exact ⟨vs, x1, x2, x3, x4.mono Le.shareI⟩
      | dct ks => obtain ⟨es, x1, x2, x4⟩ := h2; exact ⟨es, x1, x2, x4.mono Le.shareI⟩
      | dctF ks => obtain ⟨od, es, x1, x2, x4⟩ := h2; exact ⟨od, es, x1, x2, x4.mono Le.shareI⟩
      | ins k fs => obtain ⟨vs, x1, x2, x3, x4⟩ := h2; exact ⟨vs, x1, x2, x3, x4.mono Le.shareI⟩
    · rw [List.getElem?_append_right (by omega)] at e
      have hn : n - S.length = 0 := by
        have := (List.getElem?_eq_some_iff.mp e).1
        simpa using this
      rw [hn] at e
      cases e
      refine ⟨(a, dx), ?_, vs, h, ne, hd, r.mono Le.shareI⟩
      show (Ψ.sh ++ [(a, dx)])[n]? = _
      have hl := s.len
      have : n = Ψ.sh.length := by omega
      rw [this, List.getElem?_append_right (Nat.le_refl _), Nat.sub_self]
      rfl
/-! a field is set anew -/
end
/-! reading it: by number -/
def getR (k i : Nat) (d : D) : M D := fun S => match d with
  | .ref n => (match S[n]? with
    | some (.ins k' fs) => (match Nat.decEq k' k with
      | .isTrue _ => (match fs[i]? with
        | some v => .ok v S
        | none => .stuck)
      | .isFalse _ => .stuck)
    | _ => .stuck)
  | _ => .stuck
def refM (k : Nat) (d : D) : M D := fun S => match d with
  | .ref n => (match S[n]? with
    | some (.ins k' fs) => (match Nat.decEq k' k with
      | .isTrue _ => .ok (.ref n) S
      | .isFalse _ => .stuck)
    | _ => .stuck)
  | _ => .stuck
theorem ref_slt {c : Cf} {Ψ : Wd} {H : Hp} {S : Sto} {v : V} {n k : Nat} {fs : List D} (s : StoOk c Ψ H S) (r : Rep c Ψ v (.ref n)) (h : S[n]? = some (.ins k fs)) : ∃ (p : Addr × Addr) (vs : List V), v = .ref p.1 ∧ Ψ.sh[n]? = some p ∧ SlX.Slt H p.1 (c.cls k) p.2 (vs.map some) ∧ Reps c Ψ vs fs := by
  cases r with
  | obj hp =>
    obtain ⟨p', h3, vs, h4, _, _, h7⟩ := s.obj n _ h
    rw [hp] at h3
    cases h3
    exact ⟨_, vs, rfl, hp, h4, h7⟩
section
variable {c : Cf} {X : Cx} {WW : L2.St → XK} {o e : Expr} {es : List Expr} {k i : Nat} {f : Str} {pos apos : Pos}
theorem se_getR {me : Env → M D} {ad : Addr} (h : SE c X WW e me) (C : SlX.SCls c.K (c.cls k)) (t : SlX.Slot1 c.K (c.cls k) f ad i) (hb : attributeBase e f X.env (eval e X.env) = eval e X.env := by rfl) :
    SE c X WW (.Attribute e f pos) (fun ρ => bd (me ρ) (getR k i)) := by
  refine ⟨h.k, PE.imp (SlX.pe_sl h.p hb) fun σ H Q ⟨Ψ, ρ, S, F, so, eo, q⟩ => ⟨Ψ, ρ, S, F, so, eo, q.bd.mono fun d S1 q1 Ψ1 v H1 x1 s1 r1 => ?_⟩⟩
  unfold getR at q1
  split at q1
  · split at q1
    · split at q1
      · split at q1
        · rename_i fs hs _ ek _ _ d hd
          subst ek
          obtain ⟨p, vs, rfl, _, h4, h7⟩ := ref_slt s1 r1 hs
          obtain ⟨v', hv, rv⟩ := h7.get hd
          exact ⟨_, _, _, ad, _, i, v', rfl, h4, h.k ▸ C, h.k ▸ t, by rw [List.getElem?_map, hv]; rfl, q1 Ψ1 v' H1 x1 s1 rv⟩
        · exact q1.elim
      · exact q1.elim
    · exact q1.elim
  · exact q1.elim
theorem refM_post {Ψ : Wd} {H : Hp} {W : XK} {d : D} {S : Sto} {α : Type} {g : D → M α} {R : α → Sto → Prop} (q : Post c W Ψ H (bd (refM k d) g S) R) : ∃ (n : Nat) (fs : List D), d = .ref n ∧ S[n]? = some (.ins k fs) ∧ Post c W Ψ H (g (.ref n) S) R := by
  have q2 := q.bd
  cases d with
  | ref n =>
    have q3 : Post c W Ψ H ((match S[n]? with
      | some (.ins k' fs) => (match Nat.decEq k' k with
        | .isTrue _ => Res.ok (D.ref n) S
        | .isFalse _ => .stuck)
      | _ => .stuck) : Res D) fun a S' => Post c W Ψ H (g a S') R := q2
    cases hS : S[n]? with
    | none => rw [hS] at q3; exact q3.elim
    | some o =>
      rw [hS] at q3
      cases o with
      | lst ds => exact q3.elim
      | dct ks => exact q3.elim
      | dctF ks => exact q3.elim
      | ins k' fs =>
        dsimp only at q3
        cases hk : Nat.decEq k' k with
        | isTrue ek => rw [hk] at q3; subst ek; exact ⟨n, fs, rfl, hS, q3⟩
        | isFalse ek => rw [hk] at q3; exact q3.elim
  | _ => exact q2.elim
theorem se_methR0 {mo : Env → M D} {g : Addr} {n nn : Nat} {m : List D → M D} {E : XK} {nm : Str} {pl : Sem Bool} (ho : SE c X (cW E) o mo) (C : SlX.SCls c.K (c.cls k)) (hm : Meth c.K (c.cls k) nm g) (G : Fn c X.prog X.w X.mg X.base n g nn m) (hr : Room n X.A) (tk : Takes X (wx (cW E)))
    (ht : eval (.Call (.Attribute o nm apos) [] [] pos) X.env = (do
      let ov ← eval o X.env
      standAt apos.atName
      let (f, first) ← holding [ov] (getMethod ov nm pl)
      callWith pos f first (backTo pos (starEach [] X.env)) (backToKw pos (keywordEach [] X.env))) := by rfl) :
    SE c X (cW E) (.Call (.Attribute o nm apos) [] [] pos) (fun ρ => bd (mo ρ) fun d => bd (refM k d) fun d => callM nn m [d]) := by
  have G' : FnR X.prog X.w X.K X.mg X.base (L2.CX X.prog X.w) n g (PromF c nn m) := by rw [ho.k]; exact G.r
  refine ⟨ho.k, PE.imp (SlX.pe_methSl0 ho.p (ho.k ▸ C) (ho.k ▸ hm) G' hr (passes_wx tk) ht) fun σ H Q ⟨Ψ, ρ, S, F, so, eo, q⟩ => ⟨Ψ, ρ, S, F, so, eo, q.bd.mono fun d S1 q1 Ψ1 v H1 x1 s1 r1 => ?_⟩⟩
  obtain ⟨j, fs, rfl, hs, q3⟩ := refM_post q1
  obtain ⟨p, vs, rfl, hp, h4, _⟩ := ref_slt s1 r1 hs
  refine ⟨_, _, _, rfl, h4, ?_⟩
  exact prom_of (ds := [.ref j]) s1 (.cons (.obj hp) .nil) (Post.ext x1 q3) fun d' S' Ψ' v H' q5 e2 s2 r2 => q5 Ψ' v H' (x1.trans e2) s2 r2
end
/-! x.f = e, x such an instance -/
section
variable {c : Cf} {X : Cx} {W : XK} {pos pos' : Pos} {i j k : Nat} {x f : Str} {e : Expr}
end
/-! made to be shared -/
def iniR (ρ : Env) : M D := fun S => match ρ[0]? with
  | some (Slot.ownI k fs) => match allS fs with
    | some ds => .ok (.ref S.length) (S ++ [.ins k ds])
    | none => .stuck
  | _ => .stuck
def iniMR (o : Out) : M D := match o with
  | .nx ρ => iniR ρ
  | _ => stk
def initMR (n nf k : Nat) (mb : Env → M Out) (ds : List D) : M D := bd (mb (.ownI k (List.replicate nf none) :: (ds.map Slot.val ++ List.replicate (n - 1 - ds.length) .no))) iniMR
section
variable {c : Cf} {P : Program} {w : World} {mg : Str → Option Value} {base : Heap} {x qual : Str} {params : Arguments} {body : List Stmt} {scope : Scope} {dvs : List V} {kws : List (Str × V)} {f : Addr} {fd : FuncData} {N ps : List Str} {k nf kc : Nat} {mb : Env → M Out}
theorem initR_mk {n : Nat} (F : FunD c.K x qual params body scope dvs kws f fd) (sc : FnScope N ps scope) (hn : ps.length = n + 1) (hN : 1 ≤ N.length)
    (hbody : ∀ (cdv : Value) (A : Around) (outer : List PySem.Env) (s : Shared) (H : Hp) (E : XK), Room k (A.deeper (envOfC qual scope s.heap.objs.size f cdv)) → SSs c (cxOf (L2.CX P w) P w c.K mg base N qual scope f cdv A outer s H E) E body mb) :
    FnOk P w c.K mg base (L2.CX P w) (k + 1) f fd ps (PromI c n kc (initMR N.length nf kc mb)) := by
  refine F.ok sc (fun vs H Q E h => ?_) fun cdv A outer s H vs Q E hr h => ⟨_, (hbody cdv A outer s H E hr).p, ?_⟩
  · obtain ⟨Ψ, S, ds, H0, a, dx, ws, rfl, _, _, _, _, _, r, l, _⟩ := h
    rw [List.length_cons, r.length, l, hn]
  · obtain ⟨Ψ, S, ds, H0, a, dx, ws, rfl, ha, hdx, ne, rfl, so, r, l, q⟩ := h
    have hda : (upd H0 dx (.own a)) a = none := by rw [upd_ne (Ne.symm ne)]; exact ha
    refine ⟨⟨Ψ, H0, a⟩, Ψ, _, S, _, ⟨(Ext.lay hdx).trans (Ext.lay hda), (so.lay hdx).lay hda, env_init r so ha hdx ne hN, fun j b h => ?_, fun k fs h => ?_⟩, (Post.bd q).mono fun o S' q' => ?_⟩
    · by_cases z : j = 0
      · simp only [z, if_true] at h
        simp at h
        rcases h with rfl | rfl
        · exact ha
        · exact hdx
      · rw [if_neg z] at h
        cases h
    · unfold L2.start
      rfl
    · cases o with
      | nx ρ =>
        intro Ψ' σ' H' F' g
        have q2 : Post c E Ψ H0 (iniR ρ S') _ := q'
        unfold iniR at q2
        split at q2
        · rename_i k' fs hs
          split at q2
          · rename_i dl hall
            obtain ⟨a', dx', vs, hF, h1, h2, h3, h4, h5, h6⟩ := g.eo.slot 0 _ hs
            have em := g.me k' fs hs
            rw [h1] at em
            have ea : a' = a := by
              have := Option.some.inj (Option.some.inj em)
              injection this
            subst ea
            obtain ⟨ws', ev, rw'⟩ := RepsO.all hall h5 h6
            subst ev
            have pa := g.eo.priv 0 a' (by rw [hF]; simp)
            have pd := g.eo.priv 0 dx' (by rw [hF]; simp)
            have fa := g.fr 0 a' (by rw [hF]; simp)
            have fd' := g.fr 0 dx' (by rw [hF]; simp)
            refine q2 (Ψ'.shareI a' dx') H' (g.x.shareI fa fd') (g.so.shareI h2 h4 pd.2.2 pa.1 pd.1 pa.2.1 pd.2.1 rw') (.obj (n := S'.length) (p := (a', dx')) ?_)
            show (Ψ'.sh ++ [(a', dx')])[S'.length]? = _
            rw [← g.so.len, List.getElem?_append_right (Nat.le_refl _), Nat.sub_self]
            rfl
          · exact q2.elim
        · exact q2.elim
      | ret d => exact q'.elim
      | bk ρ => exact q'.elim
      | ct ρ => exact q'.elim
end
end Sm

/-! text: Sim63 -/
set_option Elab.async false
set_option linter.all false
set_option maxRecDepth 100000
set_option maxHeartbeats 4000000
namespace Sm
open PySem PySem.Spec PyProof.Rows L2
/-! ### x += e by an own __iadd__, x an instance that changes -/
section
variable {c : Cf} {X : Cx} {E : XK} {x : Str} {e : Expr} {me : Env → M D} {g : Addr} {n j k : Nat} {m : List D → M D} {pos pos' : Pos}
end
end Sm

/-! text: Sim83 -/
set_option Elab.async false
set_option linter.all false
set_option maxRecDepth 100000
set_option maxHeartbeats 4000000
namespace Sm
open PySem PySem.Spec PyProof.Rows L2
/-! ### class methods whose last parameter takes all that is left -/
structure CMetX (K : PySem.W.Frag) (C : Addr) (m : Str) (p g : Addr) : Prop where
  cm : ClX.CMet K C (.type "type") m p g
  rd : ClX.CRead K C (.type "type")
def PromS (c : Cf) (m : List D → M D) : Sp := fun vs H Q E => ∃ Ψ S v d rest ds, StoOk c Ψ H S ∧ vs = v :: rest ∧ Rep c Ψ v d ∧ Reps c Ψ rest ds ∧ rest.length ≤ LIM ∧ Post c E Ψ H (m [d, .tup ds] S) fun d' S' => ∀ Ψ' v' H', Ext Ψ H Ψ' H' → StoOk c Ψ' H' S' → Rep c Ψ' v' d' → Q v' H'
structure FnS (c : Cf) (P : Program) (w : World) (mg : Str → Option Value) (base : Heap) (k : Nat) (f : Addr) (m : List D → M D) : Prop where
  r : FnR P w c.K mg base (L2.CX P w) k f (PromS c m)
theorem FnS.mono {c : Cf} {P : Program} {w : World} {mg : Str → Option Value} {base : Heap} {f : Addr} {m : List D → M D} {j k : Nat} (F : FnS c P w mg base j f m) (h : j ≤ k) : FnS c P w mg base k f m := ⟨F.r.mono h⟩
section
variable {c : Cf} {P : Program} {w : World} {mg : Str → Option Value} {base : Heap} {x qual pc pv : Str} {params : Arguments} {body : List Stmt} {scope : Scope} {kws : List (Str × V)} {f : Addr} {fd : FuncData} {N : List Str} {k : Nat} {mb : Env → M Out}
theorem fnS_mk (F : FunD c.K x qual params body scope [] kws f fd) (sc : FnScope N ([pc] ++ [pv]) scope)
    (h0 : ∀ (kV doc pm : Value) (an : Option Addr) (cdv ct : Value) (a : Value), bindArgs (PySem.W.fnOf x qual params body scope .none kV doc pm an cdv ct) ⟨[a], []⟩ = (newTuple [] >>= fun t => pure [(pc, a), (pv, t)]))
    (h1 : ∀ (kV doc pm : Value) (an : Option Addr) (cdv ct : Value) (a r : Value) (rs : List Value), bindArgs (PySem.W.fnOf x qual params body scope .none kV doc pm an cdv ct) ⟨a :: r :: rs, []⟩ = (newTuple (r :: rs) >>= fun t => pure [(pc, a), (pv, t)]))
    (hbody : ∀ (cdv : Value) (A : Around) (outer : List PySem.Env) (s : Shared) (H : Hp) (E : XK), Room k (A.deeper (envOfC qual scope s.heap.objs.size f cdv)) → SSs c (cxOf (L2.CX P w) P w c.K mg base N qual scope f cdv A outer s H E) E body mb) :
    FnS c P w mg base (k + 1) f (fnM N.length mb) := by
  obtain ⟨oc, od, dV, kV, doc, pm, an, cdv, ct, osl, rfl, lk, hcd, hD, _⟩ := F.ex
  rcases hD with ⟨_, rfl⟩ | ⟨e, _⟩
  · have R := StX.fn_star (pv := pv) (ps := [pc]) (k := k) (CX := L2.CX P w) (P := P) (w := w) (mg := mg) (base := base) lk hcd sc StX.cxUp (sp := PromF c 2 (fnM N.length mb)) (StX.bind_star1 (B := fun us => bindArgs (PySem.W.fnOf x qual params body scope .none kV doc pm an cdv ct) ⟨us, []⟩) (h0 kV doc pm an cdv ct) (h1 kV doc pm an cdv ct)) (fun A outer s H vs Q E hr h => ⟨_, (hbody cdv A outer s H E hr).p, by
      obtain ⟨Ψ, S, ds, so, r, l, q⟩ := h
      refine ⟨⟨Ψ, H, 0⟩, Ψ, _, S, fun _ => [], ⟨Ext.refl _ _, so, env_start r, fun _ _ h => (by cases h), fun k fs h => (env_no h).elim⟩, (Post.bd q).mono fun o S' q' => ?_⟩
      cases o with
      | nx ρ => exact fun Ψ' σ' H' F' g => q' Ψ' .non H' g.x g.so .non
      | ret d => exact q'
      | bk ρ => exact q'.elim
      | ct ρ => exact q'.elim⟩)
    refine ⟨R.imp fun vs H Q E ⟨Ψ, S, v, d, rest, ds, so, ev, rv, rr, l, q⟩ => ?_⟩
    refine ⟨[v], rest, ev, rfl, lim_of l, fun p hp => ?_⟩
    have n := so.phiNone hp
    have x1 : Ext Ψ H (Ψ.know p (.tup rest)) (L2.upd H p (.tup rest)) := Ext.new hp n
    have so1 : StoOk c (Ψ.know p (.tup rest)) (L2.upd H p (.tup rest)) S := so.new hp
    have lk := Le.know (o := .tup rest) n
    have rp : Rep c (Ψ.know p (.tup rest)) (.ref p) (.tup ds) := .tup (.inl (.inl (show L2.upd Ψ.fz p _ p = _ from upd_same))) l (rr.mono lk)
    exact ⟨_, S, [d, .tup ds], so1, .cons (rv.mono lk) (.cons rp .nil), rfl, (Post.ext x1 q).mono fun d' S' q' Ψ' v' H' e2 s2 r2 => q' Ψ' v' H' (x1.trans e2) s2 r2⟩
  · exact absurd rfl e
end
section
variable {c : Cf} {X : Cx} {W : L2.St → XK} {E : XK} {pos apos p : Pos} {k kc n i : Nat} {x m : Str} {e o : Expr} {es : List Expr} {pl : Sem Bool}
/-- C.m(e, ..), m a class method -/
theorem se_cmetS {mm : List D → M D} {ma : Env → M (List D)} {q g : Addr} (hm : X.mg x = some (.ref (c.cls kc))) (r : CMetX c.K (c.cls kc) m q g) (F : FnS c X.prog X.w X.mg X.base k g mm) (hr : Room k X.A) (tk : Takes X (wx (cW E))) (ha : SA c X (cW E) (e :: es) ma)
    (hg : Gl X x := by rfl) (hdb : (x == ("__debug__" : Str)) = false := by decide) (hst : starEach (e :: es) X.env = (false, eval e X.env) :: starEach es X.env := by rfl) (hpl : (backTo pos (starEach es X.env)).any (·.1) = false := by rfl)
    (ht : eval (.Call (.Attribute (.Name x p) m apos) (e :: es) [] pos) X.env = (do
      let ov ← eval (.Name x p) X.env
      standAt apos.atName
      let (f, first) ← holding [ov] (getMethod ov m pl)
      callWith pos f first (backTo pos (starEach (e :: es) X.env)) (backToKw pos (keywordEach [] X.env))) := by rfl) :
    SE c X (cW E) (.Call (.Attribute (.Name x p) m apos) (e :: es) [] pos) (fun ρ => bd (ma ρ) fun ds => bd (opt (if ds.length ≤ LIM then some () else none)) fun _ => noX (mm [.cls kc, .tup ds])) := by
  have F' : FnR X.prog X.w X.K X.mg X.base (L2.CX X.prog X.w) k g (PromS c mm) := by rw [ha.k]; exact F.r
  have r1 : ClX.CRead X.K (c.cls kc) (.type "type") := by rw [ha.k]; exact r.rd
  have r2 : ClX.CMet X.K (c.cls kc) (.type "type") m q g := by rw [ha.k]; exact r.cm
  refine ⟨ha.k, PE.imp (ClX.pe_cmeth (pl := pl) (E := E) (pe_glob (v := .ref (c.cls kc)) hg hm rfl (hd := hdb)) r1 r2 F' hr (passes_wx tk) ha.p hst hpl ht) fun σ H Q ⟨Ψ, ρ, S, Fo, so, eo, q⟩ => ?_⟩
  refine ⟨rfl, Ψ, ρ, S, Fo, so, eo, q.bd.mono fun ds S1 q1 Ψ1 vs H1 e1 so1 rv => ?_⟩
  have q2 := q1.bd
  unfold opt at q2
  split at q2
  · rename_i hl
    split at hl
    · rename_i hlen
      refine ⟨Ψ1, S1, _, .cls kc, vs, ds, so1, rfl, .cls kc, rv, by rw [rv.length]; exact hlen, ?_⟩
      have q3 : Post c (cW E σ) Ψ H (noX (mm [.cls kc, .tup ds]) S1) _ := q2
      unfold noX at q3
      cases z : mm [.cls kc, .tup ds] S1 with
      | ok d' S' =>
        rw [z] at q3
        exact fun Ψ' v' H' e2 s2 r2 => q3 Ψ' v' H' (e1.trans e2) s2 r2
      | err k fs S' => rw [z] at q3; exact q3.elim
      | stuck => rw [z] at q3; exact q3.elim
    · cases hl
  · exact q2.elim
/-- the class that a place holds -/
def clsAt (kc i : Nat) (ρ : Env) : M Unit := fun S => match ρ[i]? with
  | some (.val (.cls j)) => if j = kc then .ok () S else .stuck
  | _ => .stuck
/-- x(e, ..), x a place that holds a class -/
theorem se_makeL {ma : Env → M (List D)} {mm : List D → M D} {g : Addr} {fd : FuncData} {ps : List Str} (M : Mk c.K (c.cls kc) g) (F : FnOk X.prog X.w c.K X.mg X.base (L2.CX X.prog X.w) k g fd ps (PromI c n kc mm)) (hb : Binds c.K fd ps []) (hr : Room (k + 1) X.A) (tk : Takes X (wx (cW E)))
    (ha : SA c X (cW E) (e :: es) ma) (hN : X.N[i]? = some x := by rfl) (hv : Vis X.env.scope x := by first | exact Or.inl rfl | exact Or.inr (Or.inl rfl) | exact Or.inr (Or.inr rfl)) (hdb : (x == ("__debug__" : Str)) = false := by decide) (hcd : (x == ("__classdict__" : Str)) = false := by decide)
    (he : starEach (e :: es) X.env = (false, eval e X.env) :: starEach es X.env := by rfl) (hpl : (backTo pos (starEach es X.env)).any (·.1) = false := by rfl) :
    SE c X (cW E) (.Call (.Name x p) (e :: es) [] pos) (fun ρ => bd (clsAt kc i ρ) fun _ => bd (ma ρ) fun ds => callM n mm ds) := by
  have F' : FnOk X.prog X.w X.K X.mg X.base (L2.CX X.prog X.w) k g fd ps (PromI c n kc mm) := by rw [ha.k]; exact F
  have hb' : Binds X.K fd ps [] := by rw [ha.k]; exact hb
  have M' : Mk X.K (c.cls kc) g := by rw [ha.k]; exact M
  have pl : PE X (.Call (.Name x p) (e :: es) [] pos) (fun σ H Q => σ[i]? = some (some (.ref (c.cls kc))) ∧ tMake (c.cls kc) (PromI c n kc mm) [] E (rA c (cW E) ma) σ H Q) := by
    refine ⟨fun pins s σ H Q I h => ?_⟩
    obtain ⟨hs, ht⟩ := h
    refine wpAny_Call_Name_kw (thn ((pe_var (pos := p) hN hv hdb hcd).run pins s σ H (fun v H1 => v = .ref (c.cls kc) ∧ H1 = H) I ⟨.ref (c.cls kc), hs, rfl, rfl⟩) fun u s1 ⟨v, H1, I1, r1, q1⟩ => ?_)
    obtain ⟨rfl, rfl⟩ := q1
    cases r1
    refine PySem.W.callWith_K (h₀ := X.base) I1.ok.mod.kin M'.kp (thn (ha.p.run pos pins s1 σ _ _ I1 ht) fun us s2 ⟨vs, H2, I2, r, q⟩ => ⟨I2.kIn, ?_⟩) he hpl
    exact run_make M' F' hr hb' .nil (passes_wx tk) I2 r q
  refine ⟨ha.k, PE.imp pl fun σ H Q ⟨Ψ, ρ, S, Fo, so, eo, q⟩ => ?_⟩
  have q1 := q.bd
  unfold clsAt at q1
  split at q1
  · rename_i j hs
    split at q1
    · rename_i hj
      subst hj
      obtain ⟨_, w, e1, rw'⟩ := eo.slot i _ hs
      cases rw'
      have q2 : Post c (cW E σ) Ψ H (bd (ma ρ) (fun ds => callM n mm ds) S) _ := q1
      refine ⟨e1, Ψ, ρ, S, Fo, so, eo, q2.bd.mono fun ds S1 q3 Ψ1 vs H1 e1 so1 r1 => ?_⟩
      intro a' dx hx hdx ne
      unfold callM at q3
      split at q3
      · rename_i hl _
        rw [List.append_nil]
        exact ⟨Ψ1, S1, ds, H1, a', dx, vs, rfl, hx, hdx, ne, rfl, so1, r1, hl, (q3.ext e1).mono fun d S' q2 Ψ' H' e2 s2 r2 => ⟨rfl, q2 Ψ' _ H' (e1.trans e2) s2 r2⟩⟩
      · exact q3.elim
    · exact q1.elim
  · exact q1.elim
end
end Sm

/-! text: Sim64 -/
set_option Elab.async false
set_option linter.all false
set_option maxRecDepth 100000
set_option maxHeartbeats 4000000
namespace Sm
open PySem PySem.Spec PyProof.Rows L2
/-! x[y] by own __getitem__, x an instance that changes -/
section
variable {c : Cf} {X : Cx} {E : XK} {a b : Expr} {ma mb : Env → M D} {g : Addr} {n k : Nat} {m : List D → M D} {pos : Pos}
end
/-! x += e, x a name that inner functions see, too -/
section
variable {c : Cf} {X : Cx} {E : XK} {x : Str} {e : Expr} {me : Env → M D} {g : Addr} {n j k : Nat} {m : List D → M D} {pos pos' : Pos}
end
end Sm

/-! text: Sim65 -/
set_option Elab.async false
set_option linter.all false
set_option maxRecDepth 100000
set_option maxHeartbeats 4000000
namespace Sm
open PySem PySem.Spec PyProof.Rows L2
/-! ### dicts in the store, their keys nested tuples -/
mutual
inductive NV (K : PySem.W.Frag) (H : Hp) : V → NestedKey → Prop
  | non : NV K H .non .none
  | bl (b : Bool) : NV K H (.bl b) (.num (if b = true then 1 else 0))
  | int (i : Int) : NV K H (.int i) (.num i)
  | str (x : Str) : NV K H (.str x) (.text x)
  | tup {a : Addr} {vs : List V} {ks : List NestedKey} (h : SqT K H a vs) (r : NVs K H vs ks) : NV K H (.ref a) (.tup ks)
inductive NVs (K : PySem.W.Frag) (H : Hp) : List V → List NestedKey → Prop
  | nil : NVs K H [] []
  | cons {v : V} {vs : List V} {k : NestedKey} {ks : List NestedKey} (h : NV K H v k) (t : NVs K H vs ks) : NVs K H (v :: vs) (k :: ks)
end
section
variable {X : Cx} {pins : List (Addr × Obj)} {σ : L2.St} {H : Hp} {s : Shared}
mutual
theorem nv_is (I : Inv X pins σ H s) : ∀ {k : NestedKey} {v : V} {u : Value}, NV X.K H v k → RelV v u → NestedIs s.heap k u
  | .none, _, u, .non, r => by cases (show u = Value.none from r); exact .none
  | .num _, _, u, .bl b, r => by cases (show u = Value.bool b from r); exact .bool rfl
  | .num _, _, u, .int i, r => by obtain ⟨t, rfl⟩ := (show ∃ t, u = Value.int i t from r); exact .int _ _
  | .text _, _, u, .str x, r => by obtain ⟨t, rfl⟩ := (show ∃ t, u = Value.str x t from r); exact .text _ _
  | .tup ks, _, u, .tup (a := a) h q, r => by
    cases (show u = Value.ref a from r)
    obtain ⟨its, rv, ⟨o, ho, hc, n, hd⟩, _⟩ := I.tuple h
    exact .tup ho hc hd (nv_are I q rv)
theorem nv_are (I : Inv X pins σ H s) : ∀ {ks : List NestedKey} {vs : List V} {us : List Value}, NVs X.K H vs ks → Vals vs us → NestedAll s.heap ks us
  | [], _, _, .nil, r => by cases r; exact .nil
  | k :: ks, _, _, .cons h t, r => by
    cases r with
    | cons r1 r2 => exact .cons (nv_is I h r1) (nv_are I t r2)
end
end
section
variable {c : Cf} {Ψ : Wd} {H : Hp} {S : Sto}
mutual
theorem Rep.nv (s : StoOk c Ψ H S) : ∀ {d : D} {v : V} {k : NestedKey}, Rep c Ψ v d → nkD d = some k → NV c.K H v k
  | .non, _, _, r, h => by simp only [nkD, Option.some.injEq] at h; subst h; cases r; exact .non
  | .bl _, _, _, r, h => by simp only [nkD, Option.some.injEq] at h; subst h; cases r; exact .bl _
  | .int _, _, _, r, h => by simp only [nkD, Option.some.injEq] at h; subst h; cases r; exact .int _
  | .str _, _, _, r, h => by simp only [nkD, Option.some.injEq] at h; subst h; cases r; exact .str _
  | .tup ds, _, _, r, h => by
    unfold nkD at h
    split at h
    · cases h
      cases r with
      | tup hs l r => exact .tup (sqT_phi s hs) (Reps.nvs s r (by assumption))
    · cases h
  | .lst _, _, _, _, h => by simp [nkD] at h
  | .scr _, _, _, _, h => by simp [nkD] at h
  | .ins _ _, _, _, _, h => by simp [nkD] at h
  | .dct _, _, _, _, h => by simp [nkD] at h
  | .dctL _, _, _, _, h => by simp [nkD] at h
  | .ref _, _, _, _, h => by simp [nkD] at h
  | .cls _, _, _, _, h => by simp [nkD] at h
  | .ty _, _, _, _, h => by simp [nkD] at h
  | .pt _, _, _, _, h => by simp [nkD] at h
theorem Reps.nvs (s : StoOk c Ψ H S) : ∀ {ds : List D} {vs : List V} {ks : List NestedKey}, Reps c Ψ vs ds → nkDs ds = some ks → NVs c.K H vs ks
  | [], _, _, r, h => by simp only [nkDs, Option.some.injEq] at h; subst h; cases r; exact .nil
  | d :: ds, _, _, r, h => by
    unfold nkDs at h
    split at h
    · split at h
      · cases h
        cases r with
        | cons r1 r2 => exact .cons (Rep.nv s r1 (by assumption)) (Reps.nvs s r2 (by assumption))
      · cases h
    · cases h
end
end
/-! entries -/
def valE (es : List (NestedKey × Addr × V)) (k : NestedKey) : Option V := (es.find? fun e => decide (e.1 = k)).map fun e => e.2.2
def putE (es : List (NestedKey × Addr × V)) (k : NestedKey) (a : Addr) (v : V) : List (NestedKey × Addr × V) :=
  if (valE es k).isSome = true then es.map (fun e => if e.1 = k then (e.1, e.2.1, v) else e) else es ++ [(k, a, v)]
abbrev EV : List (NestedKey × Addr × V) → List (NestedKey × Addr × Value) → Prop := Paired (fun (p : NestedKey × Addr × V) (q : NestedKey × Addr × Value) => p.1 = q.1 ∧ p.2.1 = q.2.1 ∧ RelV p.2.2 q.2.2)
theorem EV.val {es : List (NestedKey × Addr × V)} {xs : List (NestedKey × Addr × Value)} (r : EV es xs) (k : NestedKey) : RelO (valE es k) ((atKey xs k).map (·.2)) := by
  induction r with
  | nil => exact True.intro
  | @cons p q ps qs h t ih =>
    obtain ⟨h1, _, h2⟩ := h
    by_cases e : p.1 = k
    · have e' : q.1 = k := h1.symm.trans e
      have b : atKey (q :: qs) k = some q.2 := by simp [atKey, List.find?_cons, e']
      have b2 : valE (p :: ps) k = some p.2.2 := by simp [valE, List.find?_cons, e]
      rw [b2, b]; exact h2
    · have e' : ¬ q.1 = k := fun z => e (h1.trans z)
      have b : atKey (q :: qs) k = atKey qs k := by simp [atKey, List.find?_cons, e']
      have b2 : valE (p :: ps) k = valE ps k := by simp [valE, List.find?_cons, e]
      rw [b2, b]; exact ih
theorem EV.repl {es : List (NestedKey × Addr × V)} {xs : List (NestedKey × Addr × Value)} (r : EV es xs) (k : NestedKey) {y : V} {u : Value} (ry : RelV y u) :
    EV (es.map fun e => if e.1 = k then (e.1, e.2.1, y) else e) (xs.map (putAt k u)) := by
  induction r with
  | nil => exact .nil
  | @cons p q ps qs h t ih =>
    rw [List.map_cons, List.map_cons]
    refine .cons ?_ ih
    obtain ⟨h1, h2, h3⟩ := h
    unfold putAt
    by_cases e : p.1 = k
    · rw [if_pos e, if_pos (h1.symm.trans e)]; exact ⟨h1, h2, ry⟩
    · rw [if_neg e, if_neg (fun z => e (h1.trans z))]; exact ⟨h1, h2, h3⟩
theorem EV.mem {es : List (NestedKey × Addr × V)} {xs : List (NestedKey × Addr × Value)} (r : EV es xs) {x : NestedKey × Addr × Value} (hx : x ∈ xs) : ∃ e ∈ es, e.1 = x.1 ∧ e.2.1 = x.2.1 := by
  induction r with
  | nil => cases hx
  | @cons p q ps qs h t ih =>
    rcases List.mem_cons.mp hx with rfl | hx
    · exact ⟨p, List.mem_cons_self, h.1, h.2.1⟩
    · obtain ⟨e, he, h8⟩ := ih hx
      exact ⟨e, List.mem_cons_of_mem _ he, h8⟩
theorem EV.put {es : List (NestedKey × Addr × V)} {xs : List (NestedKey × Addr × Value)} (r : EV es xs) (k : NestedKey) {b : Addr} {y : V} {u : Value} (ry : RelV y u) : EV (putE es k b y) (storedH xs k b u) := by
  have e : (valE es k).isSome = (atKey xs k).isSome := by rw [(r.val k).isSome_eq, Option.isSome_map]
  unfold putE storedH
  rw [e]
  by_cases q : (atKey xs k).isSome = true
  · rw [if_pos q, if_pos q]; exact r.repl k ry
  · rw [if_neg q, if_neg q]; exact Paired.snoc r ⟨rfl, rfl, ry⟩
theorem putE_len (es : List (NestedKey × Addr × V)) (k : NestedKey) (a : Addr) (v : V) : (putE es k a v).length ≤ es.length + 1 := by
  unfold putE
  split
  · simp
  · simp
/-- the keys are there -/
def KeysIn (K : PySem.W.Frag) (H : Hp) (es : List (NestedKey × Addr × V)) : Prop := ∀ e ∈ es, NV K H (.ref e.2.1) e.1 ∧ e.1.depth ≤ 8
section
variable {X : Cx} {pins : List (Addr × Obj)} {σ : L2.St} {H : Hp} {s : Shared} {a : Addr} {es : List (NestedKey × Addr × V)} {A : Around} {E : Value → Shared → Prop}
theorem key_is (I : Inv X pins σ H s) {b : Addr} {k : NestedKey} (h : NV X.K H (.ref b) k) (d : k.depth ≤ 8) : (nestedKind X.prog X.w).is s.heap k b := ⟨nv_is I h rfl, d⟩
theorem ent_of (I : Inv X pins σ H s) (e : Rd H a (.ext (DictEnt X.w a es))) (hk : KeysIn X.K H es) : (a == sysModules) = false ∧ es.length ≤ LIM ∧ ∃ xs, EV es xs ∧ s.heap.DictOfH (nestedKind X.prog X.w) a xs := by
  obtain ⟨⟨h1, h2, xs, r, o, ens, ep, h3, h4, h5, h6, h7⟩, _⟩ := (show ObjOk X.prog X.w H s.heap a (.ext (DictEnt X.w a es)) from e.ok I.hok)
  refine ⟨h1, h2, xs, r, o, ens, ep, h3, h4, h5, h6, fun x hx => ?_, h7⟩
  obtain ⟨e', he, h8, h9⟩ := EV.mem r hx
  obtain ⟨k1, k2⟩ := hk e' he
  rw [← h8, ← h9]
  exact key_is I k1 k2
theorem room_x (hu : A.units + 64 < cLine) : (nestedKind X.prog X.w).room A.in1 := by show A.units + 1 + 8 < cLine; omega
/-- y in d, by values -/
def rInX (K : PySem.W.Frag) (w : World) (neg : Bool) : R2 := fun y x H Q => ∃ b a k es, y = .ref b ∧ x = .ref a ∧ Rd H a (.ext (DictEnt w a es)) ∧ KeysIn K H es ∧ NV K H (.ref b) k ∧ k.depth ≤ 8 ∧ Q (.bl ((valE es k).isSome != neg)) H
theorem op_inX (hu : X.A.units + 64 < cLine) : OpR X (compareOp .In) (rInX X.K X.w false) := by
  intro pins s σ H y x u v Q I ry rx ⟨b, a, k, es, ey, ex, he, hk, hb, hd, q⟩
  subst ey ex
  cases (show u = Value.ref b from ry)
  cases (show v = Value.ref a from rx)
  obtain ⟨h1, _, xs, r, dd⟩ := ent_of I he hk
  refine wpAny_in_heap (room_x hu) (key_is I hb hd) h1 dd ?_
  have q2 := (r.val k).isSome_eq
  rw [Option.isSome_map] at q2
  rw [← q2]
  exact ⟨.bl (valE es k).isSome, H, I.tok _, rfl, by simpa using q⟩
theorem op_ninX (hu : X.A.units + 64 < cLine) : OpR X (compareOp .NotIn) (rInX X.K X.w true) := by
  intro pins s σ H y x u v Q I ry rx ⟨b, a, k, es, ey, ex, he, hk, hb, hd, q⟩
  subst ey ex
  cases (show u = Value.ref b from ry)
  cases (show v = Value.ref a from rx)
  obtain ⟨h1, _, xs, r, dd⟩ := ent_of I he hk
  refine wpAny_notIn_heap (room_x hu) (key_is I hb hd) h1 dd ?_
  have q2 := (r.val k).isSome_eq
  rw [Option.isSome_map] at q2
  rw [← q2]
  exact ⟨.bl (!(valE es k).isSome), H, I.tok _, rfl, by simpa using q⟩
end
/-! mirrors -/
def getN : List (D × D) → NestedKey → Option D
  | [], _ => none
  | p :: r, k => if nkD p.1 = some k then some p.2 else getN r k
def repN (k : NestedKey) (v : D) : List (D × D) → List (D × D)
  | [] => []
  | p :: r => (if nkD p.1 = some k then (p.1, v) else p) :: repN k v r
def putN (ks : List (D × D)) (kd : D) (k : NestedKey) (v : D) : List (D × D) := if (getN ks k).isSome = true then repN k v ks else ks ++ [(kd, v)]
/-- a key: a tuple, nested to eight at most -/
def keyT (d : D) : Option NestedKey := match nkD d with
  | some (.tup ks) => if (NestedKey.tup ks).depth ≤ 8 then some (.tup ks) else none
  | _ => none
def dctS (d : D) (S : Sto) : Option (List (D × D)) := match d with
  | .ref n => (match S[n]? with
    | some (.dct ks) => some ks
    | some (.dctF ks) => some ks
    | _ => none)
  | _ => none
def inT (neg : Bool) : D → D → Sto → Option D := fun y x S => match dctS x S with
  | some ks => (match keyT y with
    | some k => some (.bl ((getN ks k).isSome != neg))
    | none => none)
  | none => none
def getT : D → D → Sto → Option D := fun x y S => match dctS x S with
  | some ks => (match keyT y with
    | some k => getN ks k
    | none => none)
  | none => none
section
variable {c : Cf} {Ψ : Wd} {H : Hp} {S : Sto}
theorem EReps.get : ∀ {es : List (NestedKey × Addr × V)} {ks : List (D × D)}, EReps c Ψ es ks → ∀ k, (match valE es k, getN ks k with
    | some v, some d => Rep c Ψ v d
    | none, none => True
    | _, _ => False)
  | [], [], .nil, k => trivial
  | e :: es, p :: ks, .cons h t, k => by
    have ih := EReps.get t k
    obtain ⟨h1, h2, h3, h4⟩ := h
    unfold getN
    by_cases z : e.1 = k
    · have b2 : valE (e :: es) k = some e.2.2 := by simp [valE, List.find?_cons, z]
      rw [b2, if_pos (by rw [h2, z])]
      exact h4
    · have b2 : valE (e :: es) k = valE es k := by simp [valE, List.find?_cons, z]
      rw [b2, if_neg (by rw [h2]; exact fun q => z (Option.some.inj q))]
      exact ih
theorem EReps.isS {es : List (NestedKey × Addr × V)} {ks : List (D × D)} (h : EReps c Ψ es ks) (k : NestedKey) : (valE es k).isSome = (getN ks k).isSome := by
  have := h.get k
  cases a : valE es k <;> cases b : getN ks k <;> simp_all
theorem EReps.rep : ∀ {es : List (NestedKey × Addr × V)} {ks : List (D × D)}, EReps c Ψ es ks → ∀ {k : NestedKey} {v : V} {d : D}, Rep c Ψ v d → EReps c Ψ (es.map fun e => if e.1 = k then (e.1, e.2.1, v) else e) (repN k d ks)
  | [], [], .nil, _, _, _, _ => .nil
  | e :: es, p :: ks, .cons h t, k, v, d, r => by
    have ih := EReps.rep t r (k := k)
    obtain ⟨h1, h2, h3, h4⟩ := h
    rw [List.map_cons]
    unfold repN
    refine .cons ?_ ih
    by_cases z : e.1 = k
    · rw [if_pos z, if_pos (by rw [h2, z])]
      exact ⟨h1, h2, h3, r⟩
    · rw [if_neg z, if_neg (by rw [h2]; exact fun q => z (Option.some.inj q))]
      exact ⟨h1, h2, h3, h4⟩
theorem EReps.put {es : List (NestedKey × Addr × V)} {ks : List (D × D)} (h : EReps c Ψ es ks) {k : NestedKey} {b : Addr} {kd : D} {v : V} {d : D} (rk : Rep c Ψ (.ref b) kd) (hk : nkD kd = some k) (hd : k.depth ≤ 8) (r : Rep c Ψ v d) : EReps c Ψ (putE es k b v) (putN ks kd k d) := by
  unfold putE putN
  rw [h.isS k]
  by_cases q : (getN ks k).isSome = true
  · rw [if_pos q, if_pos q]; exact h.rep r
  · rw [if_neg q, if_neg q]; exact Paired.snoc h ⟨rk, hk, hd, r⟩
theorem EReps.keys (s : StoOk c Ψ H S) {es : List (NestedKey × Addr × V)} {ks : List (D × D)} (h : EReps c Ψ es ks) : KeysIn c.K H es := by
  induction h with
  | nil => exact fun e he => by cases he
  | @cons e p es ks h t ih =>
    intro e' he
    rcases List.mem_cons.mp he with rfl | he
    · exact ⟨Rep.nv s h.1 h.2.1, h.2.2.1⟩
    · exact ih e' he
theorem EReps.len {es : List (NestedKey × Addr × V)} {ks : List (D × D)} (h : EReps c Ψ es ks) : es.length = ks.length := Paired.length h
theorem keyT_ok {d : D} {k : NestedKey} (h : keyT d = some k) : nkD d = some k ∧ k.depth ≤ 8 ∧ ∃ ds, d = .tup ds := by
  unfold keyT at h
  split at h
  · rename_i ks hk
    split at h
    · cases h
      refine ⟨hk, by assumption, ?_⟩
      cases d with
      | tup ds => exact ⟨ds, rfl⟩
      | _ => simp [nkD] at hk
    · cases h
  · cases h
theorem key_rep (s : StoOk c Ψ H S) {d : D} {v : V} {k : NestedKey} (r : RepH c Ψ H v d) (h : keyT d = some k) : ∃ b, v = .ref b ∧ Rep c Ψ (.ref b) d ∧ NV c.K H (.ref b) k ∧ k.depth ≤ 8 ∧ nkD d = some k := by
  obtain ⟨h1, h2, ds, rfl⟩ := keyT_ok h
  have r' : Rep c Ψ v (.tup ds) := r.rep fun _ z => nomatch z
  have n := Rep.nv s r' h1
  cases r' with
  | tup a b d => exact ⟨_, rfl, .tup a b d, n, h2, h1⟩
theorem dct_rep (s : StoOk c Ψ H S) {d : D} {v : V} {ks : List (D × D)} (r : RepH c Ψ H v d) (h : dctS d S = some ks) : ∃ (n : Nat) (p : Addr × Addr) (es : List (NestedKey × Addr × V)), d = .ref n ∧ Ψ.sh[n]? = some p ∧ p.2 = p.1 ∧ v = .ref p.1 ∧ Rd H p.1 (.ext (DictEnt c.w p.1 es)) ∧ EReps c Ψ es ks := by
  unfold dctS at h
  split at h
  · rename_i n
    split at h
    · rename_i ks' hs
      cases h
      obtain ⟨p, h1, h2, h3⟩ := r.ref s hs
      obtain ⟨es, a, b, e⟩ := h3
      exact ⟨n, p, es, rfl, h1, b, h2, .inl a, e⟩
    · rename_i ks' hs
      cases h
      obtain ⟨p, h1, h2, h3⟩ := r.ref s hs
      obtain ⟨od, es, a, b, e⟩ := h3
      exact ⟨n, p, es, rfl, h1, b, h2, .inr ⟨od, s.phi _ _ a⟩, e⟩
    · cases h
  · cases h
theorem dct_repO (s : StoOk c Ψ H S) {n : Nat} {v : V} {ks : List (D × D)} (r : RepH c Ψ H v (.ref n)) (h : S[n]? = some (.dct ks)) : ∃ (p : Addr × Addr) (es : List (NestedKey × Addr × V)), Ψ.sh[n]? = some p ∧ p.2 = p.1 ∧ v = .ref p.1 ∧ H p.1 = some (.ext (DictEnt c.w p.1 es)) ∧ EReps c Ψ es ks := by
  obtain ⟨p, h1, h2, h3⟩ := r.ref s h
  obtain ⟨es, a, b, e⟩ := h3
  exact ⟨p, es, h1, b, h2, a, e⟩
theorem v2_inT {neg : Bool} : V2 c (rInX c.K c.w neg) (inT neg) := by
  intro Ψ H S y x a b d Q s ry rx h q
  unfold inT at h
  split at h
  · rename_i ks hks
    split at h
    · rename_i k hk
      cases h
      obtain ⟨b1, rfl, _, n1, d1, _⟩ := key_rep s ry hk
      obtain ⟨n, p, es, _, _, _, rfl, he, er⟩ := dct_rep s rx hks
      refine ⟨b1, p.1, k, es, rfl, rfl, he, er.keys s, n1, d1, ?_⟩
      rw [er.isS k]
      exact q Ψ _ H (Ext.refl _ _) s (.bl _)
    · cases h
  · cases h
end
section
variable {c : Cf} {X : Cx} {W : L2.St → XK} {a b : Expr} {ma mb : Env → M D} {pos : Pos}
theorem se_inT (hw : X.w = c.w) (hu : X.A.units + 64 < cLine) (ha : SB c X W a ma) (hb : SB c X W b mb) (hm : behindInMarks .In b = false := by first | rfl | with_unfolding_all rfl) : SE c X W (.Compare a [.In] [b] pos) (fun ρ => o2 (inT false) (ma ρ) (mb ρ)) := se_cmp (op_inX hu) (by rw [ha.k, hw]; exact v2_inT) ha hb hm
theorem st_ninT (hw : X.w = c.w) (hu : X.A.units + 64 < cLine) (ha : SB c X W a ma) (hb : SB c X W b mb) (hm : behindInMarks .NotIn b = false := by first | rfl | with_unfolding_all rfl) : ST c X W (.Compare a [.NotIn] [b] pos) (fun ρ => boolT (o2 (inT true) (ma ρ) (mb ρ))) := st_cmp (op_ninX hu) (by rw [ha.k, hw]; exact v2_inT) ha hb hm
end
end Sm

/-! text: Sim66 -/
set_option Elab.async false
set_option linter.all false
set_option maxRecDepth 100000
set_option maxHeartbeats 4000000
namespace Sm
open PySem PySem.Spec PyProof.Rows L2
theorem StoOk.updX {c : Cf} {Ψ : Wd} {H : Hp} {S : Sto} {n : Nat} {ks ls : List (D × D)} {p : Addr × Addr} {es : List (NestedKey × Addr × V)} (s : StoOk c Ψ H S) (h : Ψ.sh[n]? = some p) (hs : S[n]? = some (.dct ks)) (r : EReps c Ψ es ls) :
    StoOk c Ψ (L2.upd H p.1 (.ext (DictEnt c.w p.1 es))) (S.set n (.dct ls)) where
  phi := fun a o e => by
    have hn := (s.off n p _ h hs rfl).1
    rw [upd_ne (ne_of_none e hn)]
    exact s.phi a o e
  off := fun i q o h1 h2 h3 => by
    by_cases z : i = n
    · subst z
      rw [h] at h1; cases h1
      exact s.off i p _ h hs rfl
    · rw [List.getElem?_set_ne (Ne.symm z)] at h2
      exact s.off i q o h1 h2 h3
  offT := s.offT
  nd := s.nd
  len := by rw [List.length_set]; exact s.len
  tbc := s.tbc
  tab := fun t ht => let ⟨ps, h1, h2⟩ := s.tab t ht; ⟨ps, by rw [upd_ne (s.tnd t ht n p h).1.symm]; exact h1, h2⟩
  tnd := s.tnd
  obj := fun i o e => by
    by_cases z : i = n
    · subst z
      have hl : i < S.length := (List.getElem?_eq_some_iff.mp hs).1
      rw [List.getElem?_set_self hl] at e
      cases e
      obtain ⟨p', h1, vs, _, h3, _⟩ := s.obj i _ hs
      rw [h] at h1; cases h1
      exact ⟨p, h, es, upd_same, h3, r⟩
    · rw [List.getElem?_set_ne (Ne.symm z)] at e
      obtain ⟨q, h1, h2⟩ := s.obj i o e
      obtain ⟨n1, n2, n3, n4⟩ := s.nd i n q p h1 h z
      refine ⟨q, h1, ?_⟩
      cases o with
      | lst ds => obtain ⟨vs, x1, x2, x3, x4⟩ := h2; exact ⟨vs, by rw [upd_ne n1]; exact x1, x2, x3, x4⟩
      | dct ks => obtain ⟨es, x1, x2, x4⟩ := h2; exact ⟨es, by rw [upd_ne n1]; exact x1, x2, x4⟩
      | dctF ks => exact h2
      | ins k fs =>
        obtain ⟨vs, x1, x2, x3, x4⟩ := h2
        refine ⟨vs, Slt.keep x1 fun b hb u hu => ?_, x2, by rw [upd_ne n3]; exact x3, x4⟩
        rcases hb with rfl | rfl
        · rw [upd_ne n1]; exact hu
        · rw [upd_ne n3]; exact hu
theorem StoOk.shareX {c : Cf} {Ψ : Wd} {H : Hp} {S : Sto} {a : Addr} {es : List (NestedKey × Addr × V)} {ks : List (D × D)} (s : StoOk c Ψ H S) (h : H a = some (.ext (DictEnt c.w a es))) (p : Ψ.fz a = none) (f : ¬ Foot Ψ a) (r : EReps c Ψ es ks) : StoOk c (Ψ.share a) H (S ++ [.dct ks]) where
  phi := s.phi
  off := fun n q o h1 h2 h3 => by
    by_cases z : n < S.length
    · rw [List.getElem?_append_left z] at h2
      have h1' : (Ψ.sh ++ [(a, a)])[n]? = some q := h1
      rw [List.getElem?_append_left (by rw [s.len]; exact z)] at h1'
      exact s.off n q o h1' h2 h3
    · have h1' : (Ψ.sh ++ [(a, a)])[n]? = some q := h1
      rw [List.getElem?_append_right (by rw [s.len]; omega)] at h1'
      have hn : n - Ψ.sh.length = 0 := by
        have := (List.getElem?_eq_some_iff.mp h1').1
        simpa using this
      rw [hn] at h1'
      cases h1'
      exact ⟨p, p⟩
  offT := s.offT
  nd := fun i j q1 q2 h1 h2 ne => by
    have key : ∀ (i : Nat) (q : Addr × Addr), (Ψ.share a).sh[i]? = some q → (Ψ.sh[i]? = some q) ∨ (i = Ψ.sh.length ∧ q = (a, a)) := fun i q e => by
      have e' : (Ψ.sh ++ [(a, a)])[i]? = some q := e
      by_cases z : i < Ψ.sh.length
      · rw [List.getElem?_append_left z] at e'; exact .inl e'
      · rw [List.getElem?_append_right (by omega)] at e'
        have hn : i - Ψ.sh.length = 0 := by
          have := (List.getElem?_eq_some_iff.mp e').1
          simpa using this
        rw [hn] at e'
        exact .inr ⟨by omega, (Option.some.inj e').symm⟩
    rcases key i q1 h1 with k1 | ⟨k1, rfl⟩ <;> rcases key j q2 h2 with k2 | ⟨k2, rfl⟩
    · exact s.nd i j q1 q2 k1 k2 ne
    · have g1 : q1.1 ≠ a := fun z => f (.inl ⟨i, q1, k1, .inl z.symm⟩)
      have g2 : q1.2 ≠ a := fun z => f (.inl ⟨i, q1, k1, .inr z.symm⟩)
      exact ⟨g1, g1, g2, g2⟩
    · have g1 : a ≠ q2.1 := fun z => f (.inl ⟨j, q2, k2, .inl z⟩)
      have g2 : a ≠ q2.2 := fun z => f (.inl ⟨j, q2, k2, .inr z⟩)
      exact ⟨g1, g2, g1, g2⟩
    · omega
  len := by
    show (Ψ.sh ++ [(a, a)]).length = _
    rw [List.length_append, List.length_append, s.len]; rfl
  tbc := s.tbc
  tab := s.tab
  tnd := fun t ht n q hq => by
    have e' : (Ψ.sh ++ [(a, a)])[n]? = some q := hq
    by_cases z : n < Ψ.sh.length
    · rw [List.getElem?_append_left z] at e'; exact s.tnd t ht n q e'
    · rw [List.getElem?_append_right (by omega)] at e'
      have hn : n - Ψ.sh.length = 0 := by
        have := (List.getElem?_eq_some_iff.mp e').1
        simpa using this
      rw [hn] at e'
      cases e'
      have hne : a ≠ t.1 := fun z => f (.inr ⟨t.2, by rw [z]; exact ht⟩)
      exact ⟨hne, hne⟩
  obj := fun n o e => by
    by_cases z : n < S.length
    · rw [List.getElem?_append_left z] at e
      obtain ⟨q, h1, h2⟩ := s.obj n o e
      refine ⟨q, Le.share.mu n q h1, ?_⟩
      cases o with
      | lst ds => obtain ⟨vs, x1, x2, x3, x4⟩ := h2; exact ⟨vs, x1, x2, x3, x4.mono Le.share⟩
      | dct ks => obtain ⟨es, x1, x2, x4⟩ := h2; exact ⟨es, x1, x2, x4.mono Le.share⟩
      | dctF ks => obtain ⟨od, es, x1, x2, x4⟩ := h2; exact ⟨od, es, x1, x2, x4.mono Le.share⟩
      | ins k fs => obtain ⟨vs, x1, x2, x3, x4⟩ := h2; exact ⟨vs, x1, x2, x3, x4.mono Le.share⟩
    · rw [List.getElem?_append_right (by omega)] at e
      have hn : n - S.length = 0 := by
        have := (List.getElem?_eq_some_iff.mp e).1
        simpa using this
      rw [hn] at e
      cases e
      refine ⟨(a, a), ?_, es, h, rfl, r.mono Le.share⟩
      show (Ψ.sh ++ [(a, a)])[n]? = _
      have hl := s.len
      have : n = Ψ.sh.length := by omega
      rw [this, List.getElem?_append_right (Nat.le_refl _), Nat.sub_self]
      rfl

section
variable {X : Cx} {pins : List (Addr × Obj)} {σ : L2.St} {H : Hp} {s : Shared} {a : Addr} {es : List (NestedKey × Addr × V)} {A : Around} {E : Value → Shared → Prop}
theorem ext_ok {P : Program} {w : World} {H' : Hp} {h' : Heap} (h : DictEnt w a es h') : ObjOk P w H' h' a (.ext (DictEnt w a es)) := by
  refine ⟨h, let ⟨_, _, _, _, o, _, _, e, _⟩ := h; ⟨o, e⟩, fun h1 h2 q k => ?_⟩
  obtain ⟨c1, c2, xs, c3, o, ens, ep, c4, c5⟩ := q
  exact ⟨c1, c2, xs, c3, o, ens, ep, k o c4, c5⟩
theorem ent_mk {P : Program} {w : World} {h' : Heap} {xs : List (NestedKey × Addr × Value)} (h1 : (a == sysModules) = false) (l : es.length ≤ LIM) (r : EV es xs) (dd : h'.DictOfH (nestedKind P w) a xs) : DictEnt w a es h' := by
  obtain ⟨o, ens, ep, h3, h4, h5, h6, _, h7⟩ := dd
  exact ⟨h1, l, xs, r, o, ens, ep, h3, h4, h5, h6, h7⟩
theorem dict_pairs2 {prog : Program} {w : World} {K : Type} [DecidableEq K] {knd : HeapKind prog w K} {env : PySem.Env} {keys : List (Option Expr)} {values : List Expr} {pos : Pos} {pairs : List (Sem Value × Sem Value)} {Q : Value → Shared → Prop} (hu : knd.room A)
    (hshape : (evalEachOpt keys env).zip ((evalEach values env).map fun v => do let x ← v; standAt pos; pure x) = pairs.map fun p => (some p.1, p.2)) (h0 : pairs ≠ []) (hlen : pairs.length ≤ 15)
    (h : wpAny (model prog w) A (evalPairs pairs) (fun vs s₁ => ∃ ps, CarriesH knd s₁.heap vs ps ∧ s₁.heap.DictOfH knd s.heap.objs.size [] ∧
      ∀ h' tk, h'.DictOfH knd s.heap.objs.size (storedAllH [] ps) → Heap.SameBut s.heap.objs.size s₁.heap h' → Q (.ref s.heap.objs.size) { s₁ with heap := h', toks := tk }) E
      { s with heap := s.heap.push { cls := .type "dict", data := .dict #[] } }) :
    wpAny (model prog w) A (eval (.Dict keys values pos) env) Q E s := by
  rw [arm_eval_Dict, hshape, dictDisplay_pairs pairs h0 (by omega)]
  exact wpAny_bind (wpAny_standAt (wpAny_bind (wpAny_subDictH (knd := knd) (Q := fun d s' => wpAny (model prog w) A (pure (Value.ref d)) Q E s') hu hlen
    (wpAny_mono h (fun vs s₁ h₁ => by obtain ⟨ps, hc, hm, hq⟩ := h₁; exact ⟨ps, hc, hm, fun h' tk a b => wpAny_pure (hq h' tk a b)⟩) fun _ _ e => e))))
/-- d[y] -/
def rGetX (K : PySem.W.Frag) (w : World) : R2 := fun x y H Q => ∃ a b k es v, x = .ref a ∧ y = .ref b ∧ Rd H a (.ext (DictEnt w a es)) ∧ KeysIn K H es ∧ NV K H (.ref b) k ∧ k.depth ≤ 8 ∧ valE es k = some v ∧ Q v H
theorem pe_getX {o i : Expr} {to ti : TE} {pos : Pos} (hu : X.A.units + 64 < cLine) (ho : PE X o to) (hi : PE X i ti) (hs : NoSl i) : PE X (.Subscript o i pos) (tOp (rGetX X.K X.w) to ti) := by
  refine ⟨fun pins s σ H Q I h => ?_⟩
  refine subD_of PySem.F.slot_dict_getitem.lookup hs (thn (ho.run pins s σ H _ I h) fun u s1 ⟨x, H1, I1, rx, q1⟩ => thn (hi.run pins s1 σ H1 _ I1 q1) fun iv s2 ⟨y, H2, I2, ry, a, b, k, es, v, ex, ey, he, hk, hn, hd, hv, q2⟩ => ?_)
  subst ex ey
  obtain rfl : u = Value.ref a := rx
  obtain rfl : iv = Value.ref b := ry
  obtain ⟨h1, _, xs, r, dd⟩ := ent_of I2 he hk
  refine ⟨dd.typeIs, ?_⟩
  obtain ⟨w', hw, rw'⟩ := RelO.some_of (v := v) (o := (atKey xs k).map (·.2)) (by rw [← hv]; exact r.val k)
  obtain ⟨p, hp, hp2⟩ := Option.map_eq_some_iff.mp hw
  refine wpAny_getItem_heap (room_x hu) (key_is I2 hn hd) dd hp ?_
  rw [hp2]
  exact ⟨v, H2, I2.tok _, rw', q2⟩
/-- d[y] = v -/
def sPutX (K : PySem.W.Frag) (w : World) (to ti tv : TE) : TS := fun D σ H => tv σ H fun v H1 => to σ H1 fun x H2 => ti σ H2 fun y H3 => ∃ a b k es, x = .ref a ∧ y = .ref b ∧ H3 a = some (.ext (DictEnt w a es)) ∧ KeysIn K H3 es ∧ NV K H3 (.ref b) k ∧ k.depth ≤ 8 ∧ es.length < LIM ∧
  D.nx σ (L2.upd H3 a (.ext (DictEnt w a (putE es k b v))))
theorem ps_putX {o i value : Expr} {to ti tv : TE} {pos pos' : Pos} (hu : X.A.units + 64 < cLine) (ho : PE X o to) (hi : PE X i ti) (hv : PE X value tv) (hs : swapsWith value (some (.Subscript o i pos')) pos.line X.env = pure false) :
    PS X (.Assign [.Subscript o i pos'] value pos) (sPutX X.K X.w to ti tv) := by
  refine ⟨fun pins s σ H D I h => ?_⟩
  refine wpAny_Assign_Subscript (thn (hv.run pins s σ H _ I h) fun r s1 ⟨v, H1, I1, rv, q1⟩ => thn (ho.run pins s1 σ H1 _ I1 q1) fun u s2 ⟨x, H2, I2, rx, q2⟩ => thn (hi.run pins s2 σ H2 _ I2 q2) fun iv s3 ⟨y, H3, I3, ry, a, b, k, es, ex, ey, he, hk, hn, hd, hl, q3⟩ => ?_) hs
  subst ex ey
  obtain rfl : u = Value.ref a := rx
  obtain rfl : iv = Value.ref b := ry
  obtain ⟨h1, l1, xs, rr, dd⟩ := ent_of I3 (Rd.of he) hk
  have hz : xs.length ≤ sizeLine := by rw [← Paired.length rr]; exact lim_of l1
  have hl2 : (putE es k b v).length ≤ LIM := by have := putE_len es k b v; omega
  refine wpAny_setItem_heap (hsz := hz) (room_x hu) (key_is I3 hn hd) dd fun h' dd' hsb => ?_
  have hq : ∃ q, h'.get? a = some q := let ⟨q, _, _, e, _⟩ := dd'; ⟨q, e⟩
  exact ⟨σ, _, d_write I3 (by rw [he]; exact True.intro) hsb hq (ext_ok (ent_mk h1 hl2 (rr.put k rv) dd')), q3⟩
/-- {} -/
theorem pe_newX {pos : Pos} : PE X (.Dict [] [] pos) (fun _ H Q => ∀ p, H p = none → Q (.ref p) (L2.upd H p (.ext (DictEnt X.w p [])))) := ⟨fun pins s σ H Q I h =>
  wpAny_Dict_empty ⟨.ref s.heap.objs.size, _, I.laid (a := s.heap.objs.size) (o := .ext (DictEnt X.w s.heap.objs.size [])) (t' := s.toks) (fun _ _ q => Heap.get?_push_of_some _ q) (Nat.le_refl _)
    (ext_ok ⟨beq_eq_false_iff_ne.mpr (Ne.symm (Nat.ne_of_lt I.big)), Nat.zero_le _, [], .nil, _, #[], 0, Heap.get?_push_size _ rfl, ⟨rfl, rfl, rfl⟩, rfl, rfl, List.nodup_nil⟩), rfl, h _ (I.hok.fresh (Nat.le_refl _))⟩⟩
/-- {k: v} -/
theorem pe_newX1 {k v : Expr} {tk tv : TE} {pos : Pos} (hu : X.A.units + 64 < cLine) (hk : PE X k tk) (hv : PE X v tv) : PE X (.Dict [some k] [v] pos) (fun σ H Q => ∀ p, H p = none → tk σ (L2.upd H p (.ext (DictEnt X.w p []))) fun x H1 => tv σ H1 fun y H2 =>
    ∃ b kk, x = .ref b ∧ H2 p = some (.ext (DictEnt X.w p [])) ∧ NV X.K H2 (.ref b) kk ∧ kk.depth ≤ 8 ∧ Q (.ref p) (L2.upd H2 p (.ext (DictEnt X.w p [(kk, b, y)])))) := by
  refine ⟨fun pins s σ H Q I q => ?_⟩
  have hn := I.hok.fresh (Nat.le_refl s.heap.objs.size)
  have hb : (s.heap.objs.size == sysModules) = false := beq_eq_false_iff_ne.mpr (Ne.symm (Nat.ne_of_lt I.big))
  have I1 := I.laid (a := s.heap.objs.size) (o := .ext (DictEnt X.w s.heap.objs.size [])) (h' := s.heap.push { cls := .type "dict", data := .dict #[] }) (t' := s.toks) (fun _ _ q => Heap.get?_push_of_some _ q) (Nat.le_refl _)
    (ext_ok ⟨hb, Nat.zero_le _, [], .nil, _, #[], 0, Heap.get?_push_size _ rfl, ⟨rfl, rfl, rfl⟩, rfl, rfl, List.nodup_nil⟩)
  have hp := pps_cons (pos := pos) hk hv pps_nil
  let Q' : List (V × V) → Hp → Prop := fun ps H2 => match ps with
    | [(x, y)] => ∃ b kk, x = .ref b ∧ H2 s.heap.objs.size = some (.ext (DictEnt X.w s.heap.objs.size [])) ∧ NV X.K H2 (.ref b) kk ∧ kk.depth ≤ 8 ∧ Q (.ref s.heap.objs.size) (L2.upd H2 s.heap.objs.size (.ext (DictEnt X.w s.heap.objs.size [(kk, b, y)])))
    | _ => False
  have hlen := pairTrees_length (env := X.env) [some k] [v] pos rfl rfl
  refine dict_pairs2 (knd := nestedKind X.prog X.w) (pairs := pairTrees [some k] [v] X.env pos) (by show X.A.units + 8 < cLine; omega) (zip_pairTrees [some k] [v] X.env pos rfl rfl) (fun he => ?_) (by rw [hlen]; exact (by decide : 1 ≤ 15)) (thn (hp.run pins _ σ _ Q' I1 (q _ hn)) fun ws s2 ⟨ps, H2, I2, rel, q2⟩ => ?_)
  · rw [he] at hlen
    cases hlen
  · have q3 : ∃ x y, ps = [(x, y)] ∧ Q' [(x, y)] H2 := by
      match ps, q2 with
      | [(x, y)], q2 => exact ⟨x, y, rfl, q2⟩
    clear q2
    obtain ⟨x, y, eps, b, kk, ex, he, hnv, hd, q9⟩ := q3
    subst eps ex
    cases rel with
    | @cons p1 p2 as bs hr t =>
      cases t
      obtain ⟨u1, u2⟩ := p2
      obtain rfl : u1 = Value.ref b := hr.1
      obtain ⟨h1, _, xs, r0, dd⟩ := ent_of I2 (Rd.of he) (fun e he => by cases he)
      cases r0
      refine ⟨[(kk, b, u2)], ⟨rfl, rfl, key_is I2 hnv hd, trivial⟩, dd, fun h' tk dd' hsb => ⟨.ref s.heap.objs.size, _, ?_, rfl, q9⟩⟩
      have hq : ∃ q, h'.get? s.heap.objs.size = some q := let ⟨q, _, _, e, _⟩ := dd'; ⟨q, e⟩
      exact d_write I2 (by rw [he]; exact True.intro) hsb hq (ext_ok (ent_mk h1 (by decide : 1 ≤ LIM) (xs := storedAllH [] [(kk, b, u2)]) (.cons ⟨rfl, rfl, hr.2⟩ .nil) dd'))
end
end Sm

/-! text: Sim67 -/
set_option Elab.async false
set_option linter.all false
set_option maxRecDepth 100000
set_option maxHeartbeats 4000000
namespace Sm
open PySem PySem.Spec PyProof.Rows L2
section
variable {c : Cf} {Ψ Ψ' : Wd} {H H' : Hp} {S : Sto}
theorem v2_getT : V2 c (rGetX c.K c.w) getT := by
  intro Ψ H S x y a b d Q s rx ry h q
  unfold getT at h
  split at h
  · rename_i ks hks
    split at h
    · rename_i k hk
      obtain ⟨b1, rfl, _, n1, d1, _⟩ := key_rep s ry hk
      obtain ⟨n, p, es, _, _, _, rfl, he, er⟩ := dct_rep s rx hks
      have g := er.get k
      rw [h] at g
      cases hv : valE es k with
      | none => rw [hv] at g; exact g.elim
      | some v =>
        rw [hv] at g
        exact ⟨p.1, b1, k, es, v, rfl, rfl, he, er.keys s, n1, d1, hv, q Ψ v H (Ext.refl _ _) s g⟩
    · cases h
  · cases h
theorem Ext.updP {p : Addr} {o : HO} (x : Ext Ψ H Ψ' H') (h : H p = none) : Ext Ψ H Ψ' (L2.upd H' p o) where
  le := x.le
  dom := fun b hb => by
    by_cases e : b = p
    · subst e; exact h
    · rw [upd_ne e] at hb; exact x.dom b hb
  nphi := x.nphi
  nmu := x.nmu
  keep := fun b u hu f => by rw [upd_ne (ne_of_none hu h)]; exact x.keep b u hu f
end
/-- d[k] = v -/
def putT (x y v : D) (ρ : Sm.Env) : M Out := fun S => match x with
  | .ref n => (match S[n]? with
    | some (.dct ks) => (match keyT y with
      | some k => if ks.length < LIM then .ok (.nx ρ) (S.set n (.dct (putN ks y k v))) else .stuck
      | none => .stuck)
    | _ => .stuck)
  | _ => .stuck
def newT0 : M D := fun S => .ok (.ref S.length) (S ++ [.dct []])
def newT1 (k v : D) : M D := fun S => match keyT k with
  | some _ => .ok (.ref S.length) (S ++ [.dct [(k, v)]])
  | none => .stuck
section
variable {c : Cf} {X : Cx} {WW : L2.St → XK} {W : XK} {a b e o : Expr} {ma mb m mo mk : Env → M D} {pos pos' : Pos}
theorem se_getT (hw : X.w = c.w) (hu : X.A.units + 64 < cLine) (ha : SB c X WW a ma) (hb : SB c X WW b mb) (hs : NoSl b := by exact fun _ _ => rfl) : SE c X WW (.Subscript a b pos) (fun ρ => o2 getT (ma ρ) (mb ρ)) :=
  ⟨ha.k, PE.imp (pe_getX hu ha.p hb.p hs) fun σ H Q h => two_r (by rw [ha.k, hw]; exact v2_getT) h⟩
theorem ss_putT (hw : X.w = c.w) (hu : X.A.units + 64 < cLine) (h : SE c X (cW W) e m) (ho : SE c X (cW W) o mo) (hk : SE c X (cW W) a mk) (hs : swapsWith e (some (.Subscript o a pos')) pos.line X.env = pure false := by rfl) :
    SS c X W (.Assign [.Subscript o a pos'] e pos) (fun ρ => bd (m ρ) fun v => bd (mo ρ) fun x => bd (mk ρ) fun y => putT x y v ρ) := by
  refine ⟨h.k, PS.imp (ps_putX hu ho.p hk.p h.p hs) fun D σ H ⟨B, Ψ, ρ, S, F, g, q⟩ => ⟨Ψ, ρ, S, F, g.so, g.eo, (q.bd.ext g.x).mono fun v S1 q1 Ψ1 vv H1 x1 s1 r1 => ?_⟩⟩
  have g1 := g.ext x1 s1
  refine ⟨Ψ1, ρ, S1, F, g1.so, g1.eo, (q1.bd.ext g1.x).mono fun x S2 q2 Ψ2 xv H2 x2 s2 r2 => ?_⟩
  have g2 := g1.ext x2 s2
  refine ⟨Ψ2, ρ, S2, F, g2.so, g2.eo, (q2.bd.ext g2.x).mono fun y S3 q3 Ψ3 yv H3 x3 s3 r3 => ?_⟩
  have g3 := g2.ext x3 s3
  unfold putT at q3
  split at q3
  · rename_i n
    split at q3
    · rename_i ks hks
      split at q3
      · rename_i k hk'
        split at q3
        · rename_i hl
          obtain ⟨b1, rfl, rb, n1, d1, hkd⟩ := key_rep s3 (.inl r3) hk'
          obtain ⟨p, es, hp, hpp, rfl, he, er⟩ := dct_repO s3 (.inl (r2.mono x3.le)) hks
          have er2 := er.put rb hkd d1 (r1.mono (x2.le.trans x3.le))
          refine ⟨p.1, b1, k, es, rfl, rfl, by rw [hw]; exact he, by rw [h.k]; exact er.keys s3, by rw [h.k]; exact n1, d1, by rw [er.len]; exact hl, ?_⟩
          have s4 := s3.updX hp hks er2
          have x4 : Ext Ψ3 H3 Ψ3 (L2.upd H3 p.1 (.ext (DictEnt c.w p.1 (putE es k b1 vv)))) := Ext.updO hp (by rw [he]; exact fun z => nomatch z)
          rw [hw]
          exact q3 Ψ3 σ _ F (g3.ext x4 s4)
        · exact q3.elim
      · exact q3.elim
    · exact q3.elim
  · exact q3.elim
theorem se_newT0 (hw : X.w = c.w) (k : X.K = c.K) : SE c X WW (.Dict [] [] pos) (fun _ => newT0) := by
  refine ⟨k, PE.imp pe_newX fun σ H Q ⟨Ψ, ρ, S, F, so, eo, q⟩ => fun p hp => ?_⟩
  have q1 : ∀ Ψ' v H', Ext Ψ H Ψ' H' → StoOk c Ψ' H' (S ++ [.dct []]) → Rep c Ψ' v (.ref S.length) → Q v H' := q
  have f := so.footNone hp
  have s1 : StoOk c (Ψ.share p) (L2.upd H p (.ext (DictEnt X.w p []))) (S ++ [.dct []]) := (so.lay hp).shareX (by rw [upd_same, hw]) (so.phiNone hp) f .nil
  refine q1 (Ψ.share p) (.ref p) _ ((Ext.lay hp).share hp) s1 (.obj (n := S.length) (p := (p, p)) ?_)
  show (Ψ.sh ++ [(p, p)])[S.length]? = _
  rw [← so.len, List.getElem?_append_right (Nat.le_refl _), Nat.sub_self]
  rfl
theorem se_newT1 (hw : X.w = c.w) (hu : X.A.units + 64 < cLine) (hk : SE c X WW a mk) (hv : SE c X WW b m) : SE c X WW (.Dict [some a] [b] pos) (fun ρ => bd (mk ρ) fun k => bd (m ρ) fun v => newT1 k v) := by
  refine ⟨hk.k, PE.imp (pe_newX1 hu hk.p hv.p) fun σ H Q ⟨Ψ, ρ, S, F, so, eo, q⟩ => fun p hp => ?_⟩
  have x0 : Ext Ψ H Ψ (L2.upd H p (.ext (DictEnt X.w p []))) := Ext.lay hp
  have f0 := so.footNone hp
  have n0 := so.phiNone hp
  refine ⟨Ψ, ρ, S, F, so.lay hp, eo.ext x0, (q.bd.ext x0).mono fun k S1 q1 Ψ1 kv H1 x1 s1 r1 => ?_⟩
  have x01 := x0.trans x1
  refine ⟨Ψ1, ρ, S1, F, s1, eo.ext x01, (q1.bd.ext x01).mono fun v S2 q2 Ψ2 vv H2 x2 s2 r2 => ?_⟩
  have x02 := x01.trans x2
  unfold newT1 at q2
  split at q2
  · rename_i kk hkk
    have q3 : ∀ Ψ' v' H', Ext Ψ H Ψ' H' → StoOk c Ψ' H' (S2 ++ [.dct [(k, v)]]) → Rep c Ψ' v' (.ref S2.length) → Q v' H' := q2
    obtain ⟨b1, rfl, rb, n1, d1, hkd⟩ := key_rep s2 (.inl (r1.mono x2.le)) hkk
    have hkeep : ∀ {Ψ' : Wd} {H' : Hp}, Ext Ψ (L2.upd H p (.ext (DictEnt X.w p []))) Ψ' H' → H' p = some (.ext (DictEnt X.w p [])) := fun x => x.keep p _ upd_same f0
    have hp2 := hkeep (x1.trans x2)
    have f2 : ¬ Foot Ψ2 p := fun f => by
      rcases (x1.trans x2).nmu p f with z | z
      · exact f0 z
      · rw [upd_same] at z; cases z
    have n2 : Ψ2.fz p = none := by
      cases z : Ψ2.fz p with
      | none => rfl
      | some u =>
        rcases (x1.trans x2).nphi p u z with z' | z' | z'
        · rw [n0] at z'; cases z'
        · rw [upd_same] at z'; cases z'
        · exact absurd z' f0
    refine ⟨b1, kk, rfl, hp2, by rw [hk.k]; exact n1, d1, ?_⟩
    have er : EReps c Ψ2 [(kk, b1, vv)] [(k, v)] := .cons ⟨rb, hkd, d1, r2⟩ .nil
    have s3 : StoOk c (Ψ2.share p) (L2.upd H2 p (.ext (DictEnt X.w p [(kk, b1, vv)]))) (S2 ++ [.dct [(k, v)]]) := (s2.updF n2 f2).shareX (by rw [upd_same, hw]) n2 f2 er
    have x3 : Ext Ψ H (Ψ2.share p) (L2.upd H2 p (.ext (DictEnt X.w p [(kk, b1, vv)]))) := (x02.updP hp).share hp
    refine q3 (Ψ2.share p) (.ref p) _ x3 s3 (.obj (n := S2.length) (p := (p, p)) ?_)
    show (Ψ2.sh ++ [(p, p)])[S2.length]? = _
    rw [← s2.len, List.getElem?_append_right (Nat.le_refl _), Nat.sub_self]
    rfl
  · exact q2.elim
end
/-! len(d), list(d) -/
def rLenX (K : PySem.W.Frag) (w : World) : List V → Hp → VK → Prop := fun xs H Q => ∃ a es, xs = [.ref a] ∧ Rd H a (.ext (DictEnt w a es)) ∧ KeysIn K H es ∧ Q (.int es.length) H
theorem call_lenX {X : Cx} : CallR X (.builtin "len") (rLenX X.K X.w) := by
  intro pins s σ H xs us Q I r ⟨a, es, e, he, hk, q⟩
  subst e
  obtain ⟨u, eu, rx⟩ := vals1 r
  subst eu
  obtain rfl : u = Value.ref a := rx
  obtain ⟨h1, l, xs, rr, dd⟩ := ent_of I he hk
  have hl : es.length = xs.length := Paired.length rr
  refine PyProof.Rows.call_len_slot (n := (xs.length : Int)) dd.typeIs PySem.F.slot_dict_len (fun Q' hq => ?_) (by omega) (by unfold LIM at l; omega) ⟨.int es.length, H, I.tok _, ⟨_, by rw [hl]⟩, q⟩
  refine len_keyed (knd := nestedKind X.prog X.w) (kvs := pairsH xs) h1 ⟨xs, dd, rfl⟩ ?_
  rw [pairsH_length]
  exact hq
def rListX (K : PySem.W.Frag) (w : World) : List V → Hp → VK → Prop := fun xs H Q => ∃ a es, xs = [.ref a] ∧ Rd H a (.ext (DictEnt w a es)) ∧ KeysIn K H es ∧ ∀ q, H q = none → Q (.ref q) (L2.upd H q (.lst (es.map fun e => .ref e.2.1)))
theorem EV.at {es : List (NestedKey × Addr × V)} {xs : List (NestedKey × Addr × Value)} (r : EV es xs) : ∀ {j : Nat} {x : NestedKey × Addr × Value}, xs[j]? = some x → ∃ e, es[j]? = some e ∧ e.2.1 = x.2.1 := by
  induction r with
  | nil => intro j x h; simp at h
  | @cons p q ps qs h t ih =>
    intro j x hx
    cases j with
    | zero => simp at hx; subst hx; exact ⟨p, rfl, h.2.1⟩
    | succ j => simpa using ih (by simpa using hx)
theorem call_listX {X : Cx} (hc : X.calm = true) : CallR X (.type "list") (rListX X.K X.w) := by
  intro pins s σ H xs us Q I r ⟨a, es, e, he, hk, q⟩
  subst e
  obtain ⟨u, eu, rx⟩ := vals1 r
  subst eu
  obtain rfl : u = Value.ref a := rx
  obtain ⟨h1, l, xs, rr, o, ens, ep, h3, h4, h5, h6, _⟩ := ent_of I he hk
  have hl : es.length = xs.length := Paired.length rr
  have hsz : ens.size = xs.length := by rw [← Array.length_toList, h6, List.length_map]
  refine PySem.W.kdl_call (KdlSrc.rawDict (es := ens) (ep := ep) h1) (I.ok.hd hc) ⟨o, h3, h4, h5⟩ (by rw [hsz, ← hl]; exact lim_of l) fun h' tk acc' c' hkeep hS hacc => ?_
  refine ⟨.ref s.heap.objs.size, L2.upd H s.heap.objs.size (.lst (es.map fun e => .ref e.2.1)), I.laid hkeep (Nat.le_refl _) (show ObjOk X.prog X.w _ _ _ (.lst (es.map fun e => .ref e.2.1)) from ⟨?_, acc'.toList, c', ?_, ?_⟩), rfl, q _ (I.hok.fresh (Nat.le_refl _))⟩
  · rw [List.length_map]; exact lim_of l
  · have el : acc'.toList.length = acc'.size := by simp
    refine vals_of_at (by rw [List.length_map, el, hacc.1, hsz, hl]) fun j x w' e1 e2 => ?_
    obtain ⟨hi, rfl⟩ := hacc.2 j w' (by rw [← Array.getElem?_toList]; exact e2)
    have hx : ens[j]? = some ens[j] := Array.getElem?_eq_getElem hi
    rw [← Array.getElem?_toList, h6, List.getElem?_map] at hx
    obtain ⟨y, hy, hy2⟩ := Option.map_eq_some_iff.mp hx
    obtain ⟨e', he', ha⟩ := rr.at hy
    rw [List.getElem?_map, he'] at e1
    cases e1
    rw [← hy2]
    show Value.ref y.2.1 = Value.ref e'.2.1
    rw [ha]
  · rw [Array.toArray_toList]; exact hS
def lenX : List D → Sto → Option D := fun xs S => match xs with
  | [d] => (match dctS d S with
    | some ks => some (.int ks.length)
    | none => none)
  | _ => none
def listX : List D → Sto → Option (List D) := fun xs S => match xs with
  | [d] => (match dctS d S with
    | some ks => some (ks.map (·.1))
    | none => none)
  | _ => none
def listX2 : List D → Sto → Option (List D) := fun xs S => match listX xs S with
    | some ds => if ds.length ≤ LIM then some ds else none
    | none => none
section
variable {c : Cf}
theorem vc_lenX : VC c (rLenX c.K c.w) lenX := by
  intro Ψ H S xs ds d Q s r h q
  unfold lenX at h
  split at h
  · rename_i d0
    obtain ⟨v, rfl, rv⟩ := r.one
    split at h
    · rename_i ks hks
      cases h
      obtain ⟨n, p, es, _, _, _, rfl, he, er⟩ := dct_rep s rv hks
      exact ⟨p.1, es, rfl, he, er.keys s, by rw [er.len]; exact q Ψ _ H (Ext.refl _ _) s (.int _)⟩
    · cases h
  · cases h
theorem EReps.refs {Ψ : Wd} {es : List (NestedKey × Addr × V)} {ks : List (D × D)} (h : EReps c Ψ es ks) : Reps c Ψ (es.map fun e => .ref e.2.1) (ks.map (·.1)) := by
  induction h with
  | nil => exact .nil
  | cons h t ih => exact .cons h.1 ih
theorem vc_listX : VCN c (rListX c.K c.w) listX2 := by
  intro Ψ H S xs ds d Q s r h q
  unfold listX2 at h
  split at h
  · rename_i ds' hds
    split at h
    · rename_i hl
      cases h
      unfold listX at hds
      split at hds
      · rename_i d0
        obtain ⟨v, rfl, rv⟩ := r.one
        split at hds
        · rename_i ks hks
          cases hds
          obtain ⟨n, p, es, _, _, _, rfl, he, er⟩ := dct_rep s rv hks
          refine ⟨p.1, es, rfl, he, er.keys s, fun q1 hq1 => q q1 _ hq1 ?_ er.refs⟩
          rw [List.length_map, er.len]
          simpa using hl
        · cases hds
      · cases hds
    · cases h
  · cases h
end
section
variable {c : Cf} {X : Cx} {W : L2.St → XK} {e : Expr} {es : List Expr} {ms : Env → M (List D)} {p pos : Pos}
theorem se_lenX (hw : X.w = c.w) (ha : SAB c X W (e :: es) ms) (hm : X.mg "len" = none) (hg : Gl X "len" := by rfl) (he : starEach (e :: es) X.env = (false, eval e X.env) :: starEach es X.env := by rfl) (hpl : (backTo pos (starEach es X.env)).any (·.1) = false := by rfl) :
    SE c X W (.Call (.Name "len" p) (e :: es) [] pos) (fun ρ => c1 lenX (ms ρ)) := se_callB call_lenX (by rw [ha.k, hw]; exact vc_lenX) ha hm boot_len hg (by decide) (by decide) he hpl
theorem sn_listX (hw : X.w = c.w) (ha : SAB c X W (e :: es) ms) (hm : X.mg "list" = none) (hc : X.calm = true := by rfl) (hg : Gl X "list" := by rfl) (he : starEach (e :: es) X.env = (false, eval e X.env) :: starEach es X.env := by rfl) (hpl : (backTo pos (starEach es X.env)).any (·.1) = false := by rfl) :
    SN c X W (.Call (.Name "list" p) (e :: es) [] pos) (fun ρ => c1N listX2 (ms ρ)) := sn_callTy (call_listX hc) (by rw [ha.k, hw]; exact vc_listX) ha hm boot_list hg (by decide) (by decide) he hpl
end
end Sm

/-! text: Sim68 -/
set_option Elab.async false
set_option linter.all false
set_option maxRecDepth 100000
set_option maxHeartbeats 4000000
namespace Sm
open PySem PySem.Spec PyProof.Rows L2
/-! ### {k: v for target in iter if ..}: a new dict in the store, its keys tuples -/
theorem d_dictSetX {X : Cx} {pins : List (Addr × Obj)} {σ : L2.St} {H : Hp} {s : Shared} {E : Value → Shared → Prop} {D b : Addr} {es : List (NestedKey × Addr × V)} {k : NestedKey} {v : V} {u r : Value} {Q : Unit → Shared → Prop} (hu : X.A.units + 64 < cLine) (I : Inv X pins σ H s) (hD : H D = some (.ext (DictEnt X.w D es))) (hk : KeysIn X.K H es) (hn : NV X.K H (.ref b) k) (hd : k.depth ≤ 8) (hl : es.length < LIM)
    (ry : RelV (.ref b) u) (rv : RelV v r) (h : ∀ s', Inv X pins σ (L2.upd H D (.ext (DictEnt X.w D (putE es k b v)))) s' → Q () s') : wpAny (model X.prog X.w) X.A (dictSet D u r) Q E s := by
  obtain rfl : u = Value.ref b := ry
  obtain ⟨h1, l1, xs, rr, dd⟩ := ent_of I (Rd.of hD) hk
  have hz : xs.length ≤ sizeLine := by rw [← Paired.length rr]; exact lim_of l1
  have hl2 : (putE es k b v).length ≤ LIM := by have := putE_len es k b v; omega
  refine wpAny_dictSet_heap (hsz := hz) ((by show X.A.units + 8 < cLine; omega : (nestedKind X.prog X.w).room X.A)) (key_is I hn hd) dd fun h' dd' hsb => h _ ?_
  have hq : ∃ q, h'.get? D = some q := let ⟨q, _, _, e, _⟩ := dd'; ⟨q, e⟩
  exact d_write I (by rw [hD]; exact True.intro) hsb hq (ext_ok (ent_mk h1 hl2 (rr.put k rv) dd'))
def tDcX (K : PySem.W.Frag) (w : World) (wi : TI) (g : TG) (tt : TT) (tk tv : TE) (vs : List Nat) : TE := fun σ H Q => wi σ H fun J H1 => ∀ D, H1 D = none → ∃ W : Nat → Nat → Hp → Prop, (∃ m, W 0 m (L2.upd H1 D (.ext (DictEnt w D [])))) ∧ ∀ i m H, W i m H →
  (J.stop i H ∧ Q (.ref D) H) ∨ (J.go i H ∧ ∃ Nx : Hp → Prop, (∀ H', Nx H' → ∃ m', m' < m ∧ W (i + 1) m' H') ∧ ∀ x H', J.yld i H x H' → g x (wipe σ vs) H' fun σ2 H2 => wipe σ2 vs = wipe σ vs ∧ tt σ2 H2 fun b H3 =>
    if b = true then tk σ2 H3 fun y H4 => tv σ2 H4 fun z H5 => ∃ es k b, y = .ref b ∧ H5 D = some (.ext (DictEnt w D es)) ∧ KeysIn K H5 es ∧ NV K H5 (.ref b) k ∧ k.depth ≤ 8 ∧ es.length < LIM ∧ Nx (L2.upd H5 D (.ext (DictEnt w D (putE es k b z)))) else Nx H3)
section
variable {X : Cx}
theorem dcX_core {pins : List (Addr × Obj)} {s : Shared} {σ : L2.St} {H : Hp} {Q : VK} {kx vx tg iter : Expr} {ifs : List Expr} {scope : Scope} {own : List (Str × Nat)} {pos pos' : Pos} {wi : TI} {g : TG} {tt : TT} {tk tv : TE} {use : Option (Value → Sem Unit)} {Qf : Value → Shared → Prop}
    (hu : X.A.units + 64 < cLine) (hc : X.calm = true) (hN : X.N.Nodup) (I : Inv X pins σ H s) (hi : PI X tg iter wi) (ok : BlkOk X.N X.env.scope scope own)
    (hg : ∀ (s : Shared) (H : Hp) (C : Addr) (cl : List (Str × Addr)) (fp : List Addr), PG (X.blk s H scope (compEnvC scope cl C X.env) fp) tg g) (ht : ∀ (s : Shared) (H : Hp) (C : Addr) (cl : List (Str × Addr)) (fp : List Addr), PTs (X.blk s H scope (compEnvC scope cl C X.env) fp) ifs tt)
    (hk : ∀ (s : Shared) (H : Hp) (C : Addr) (cl : List (Str × Addr)) (fp : List Addr), PE (X.blk s H scope (compEnvC scope cl C X.env) fp) kx tk)
    (he : ∀ (s : Shared) (H : Hp) (C : Addr) (cl : List (Str × Addr)) (fp : List Addr), PE (X.blk s H scope (compEnvC scope cl C X.env) fp) vx tv) (hs : ∀ x, foldedSetIterable iter X.env x = pure x)
    (h : tDcX X.K X.w wi g tt tk tv (own.map (·.2)) σ H Q)
    (hRR : ∀ D C s' m H', Inv X pins σ H' s' → Q (.ref D) H' → s'.heap.Ns C m → FpOk X pins H' C → compPost (model X.prog X.w) X.A X.xe use Qf (.ref D) C (.ok .next) s') :
    wpAny (model X.prog X.w) X.A (comprehension (.DictComp kx vx [⟨tg, iter, ifs, 0⟩] scope pos) scope X.env pos' newDict false (eval iter X.env) use) Qf X.xe s := by
  have hfree : ∀ y ∈ scope.names, y.2 = .free → ∃ c, X.env.cells.lookup y.1 = some c := fun y hy e => by
    rcases ok.free y hy e with k | k
    · exact I.ok.has _ (.inl k)
    · exact I.ok.has _ (.inr k)
  refine wpAny_comprehension_free (use := use) rfl hs (closure_ok hfree) ok.kind (fun y hy e => by rw [ok.uniq y hy, e])
    (thn (hi.run pins s σ H _ I h) fun xv s1 hx => thn hx fun itv s2 h2 => ?_)
  obtain ⟨it, fp, tn, J, H2, e, I2, T, st2, f2, q⟩ := h2
  subst e
  refine wpAny_newObj_type (newEnv_comp ?_)
  generalize hD : s2.heap.objs.size = D
  have hDn : H2 D = none := I2.hok.fresh (Nat.le_of_eq hD)
  obtain ⟨W, ⟨m0, w0⟩, turn⟩ := q D hDn
  -- the new list
  generalize hs3 : ({ s2 with heap := s2.heap.push { cls := .type "dict", data := .dict #[] } } : Shared) = s3
  have hb0 : (s2.heap.objs.size == sysModules) = false := beq_eq_false_iff_ne.mpr (Ne.symm (Nat.ne_of_lt I2.big))
  have I3 : Inv X pins σ (L2.upd H2 D (.ext (DictEnt X.w D []))) s3 := by
    rw [← hs3]
    refine I2.laid (t' := s2.toks) (fun b o e => Heap.get?_push_of_some _ e) (Nat.le_of_eq hD) ?_
    rw [← hD]
    exact ext_ok ⟨hb0, Nat.zero_le _, [], .nil, _, #[], 0, Heap.get?_push_size _ rfl, ⟨rfl, rfl, rfl⟩, rfl, rfl, List.nodup_nil⟩
  have h3 : s3.heap = s2.heap.push { cls := .type "dict", data := .dict #[] } := by rw [← hs3]
  have sz : ∀ b ∈ fp, b < s2.heap.objs.size := fun b hb => by
    obtain ⟨o, e, _⟩ := T.obj _ _ st2 b hb
    exact Heap.lt_size e
  have f3 : ∀ b ∈ fp, FpOk X pins (L2.upd H2 D (.ext (DictEnt X.w D []))) b ∧ b < s3.heap.objs.size := fun b hb => by
    have hlt := sz b hb
    refine ⟨⟨?_, (f2 b hb).2⟩, by rw [h3, Heap.size_push]; exact Nat.lt_succ_of_lt hlt⟩
    rw [upd_ne (by rw [← hD]; exact Nat.ne_of_lt hlt)]
    exact (f2 b hb).1
  have st3 : tn 0 s3.heap := T.keep _ _ _ st2 fun b _ o e => by rw [h3]; exact Heap.get?_push_of_some _ e
  have I4 := block_start I3 ok hN f3
  have pg := hg s3 (L2.upd H2 D (.ext (DictEnt X.w D []))) s3.heap.objs.size (cellsFrom (s3.heap.objs.size + 1) scope.names (cloFrom X.env.cells scope.names [])) fp
  have pt := ht s3 (L2.upd H2 D (.ext (DictEnt X.w D []))) s3.heap.objs.size (cellsFrom (s3.heap.objs.size + 1) scope.names (cloFrom X.env.cells scope.names [])) fp
  have pk := hk s3 (L2.upd H2 D (.ext (DictEnt X.w D []))) s3.heap.objs.size (cellsFrom (s3.heap.objs.size + 1) scope.names (cloFrom X.env.cells scope.names [])) fp
  have pe := he s3 (L2.upd H2 D (.ext (DictEnt X.w D []))) s3.heap.objs.size (cellsFrom (s3.heap.objs.size + 1) scope.names (cloFrom X.env.cells scope.names [])) fp
  show codeAny _ _ (.compStart (.DictComp kx vx [⟨tg, iter, ifs, 0⟩] scope pos) 0 (.ref it) (.ref D) (compEnvC scope (cellsFrom (s3.heap.objs.size + 1) scope.names (cloFrom X.env.cells scope.names [])) s3.heap.objs.size X.env)) (compPost (model X.prog X.w) X.A X.xe use Qf (.ref D) s3.heap.objs.size) { s3 with heap := pushCells (s3.heap.push { cls := .type "dict", data := .dict #[] }) scope.names }
  have nfp : ∀ b ∈ fp, (L2.upd H2 D (.ext (DictEnt X.w D []))) b = none := fun b hb => (f3 b hb).1.1
  generalize hce : compEnvC scope (cellsFrom (s3.heap.objs.size + 1) scope.names (cloFrom X.env.cells scope.names [])) s3.heap.objs.size X.env = ce at I4 pg pt pk pe ⊢
  have cL : ce.locals = s3.heap.objs.size := by subst hce; rfl
  generalize hH3 : L2.upd H2 D (.ext (DictEnt X.w D [])) = H3 at I3 I4 pg pt pk pe w0 nfp f3
  generalize hs4 : ({ s3 with heap := pushCells (s3.heap.push { cls := .type "dict", data := .dict #[] }) scope.names } : Shared) = s4 at I4 ⊢
  have st4 : tn 0 s4.heap := T.keep _ _ _ st3 fun b _ o e => by rw [← hs4]; exact pushCells_keeps _ _ _ _ (Heap.get?_push_of_some _ e)
  have stat : ∀ {σ' : L2.St} {H' : Hp} {s' : Shared}, Inv (X.blk s3 H3 scope ce fp) [] σ' H' s' → (∀ b ∈ fp, H' b = none) → ∀ b ∈ fp, FpOk (X.blk s3 H3 scope ce fp) [] H' b := fun {σ' H' s'} I' hn b hb =>
    ⟨hn b hb, (I'.ok.exf b hb).1, I'.ok.exfs b hb, .inl hb, fun x c e => (I'.ok.exf b hb).2 x c e, fun p hp => absurd (show p ∈ ([] : List (Addr × Obj)) ++ [] from hp) (by simp)⟩
  have loop : codeAny (model X.prog X.w) X.A (.compLoop (.DictComp kx vx [⟨tg, iter, ifs, 0⟩] scope pos) 0 (.ref it) (.ref D) ce) (compPost (model X.prog X.w) X.A X.xe use Qf (.ref D) s3.heap.objs.size) s4 := by
    refine compLoop_anyD (fun n s' => ∃ i H', Inv (X.blk s3 H3 scope ce fp) [] (wipe σ (own.map (·.2))) H' s' ∧ tn i s'.heap ∧ (∀ b ∈ fp, H' b = none) ∧ W i n H') ?_ m0 ⟨0, H3, I4, st4, nfp, w0⟩
    rintro n s5 ⟨i, H5, I5, st5, n5, w5⟩
    rcases turn i n H5 w5 with ⟨stop, qq⟩ | ⟨go, Nx, hNx, step⟩
    · have td := T.done (X.blk s3 H3 scope ce fp) rfl rfl rfl hc i [] s5 _ H5 (fun _ _ => False) I5 (stat I5 n5) st5 stop
      refine thnF td fun r s6 ⟨hr, I6⟩ => ?_
      subst hr
      -- back in the def's context
      have I7 : Inv X pins σ H5 s6 := I3.call' (ch := fp) I6.os I6.base I6.hok I6.bare fun b hb => ⟨(f3 b hb).1.2.2.2.1, (f3 b hb).1.2.1, (f3 b hb).1.2.2.2.2.1, (f3 b hb).1.2.2.2.2.2⟩
      have nC : H5 s3.heap.objs.size = none := by
        have z : H5 ce.locals = none := I6.free
        rw [cL] at z
        exact z
      obtain ⟨m, hn, _⟩ := I6.loc
      have hn : s6.heap.Ns ce.locals m := hn
      rw [cL] at hn
      exact hRR D s3.heap.objs.size s6 m H5 I7 qq hn (I3.fpOk (Nat.le_refl _) nC)
    · have ti := T.item (X.blk s3 H3 scope ce fp) rfl rfl rfl hc i [] s5 _ H5 (fun _ _ => False) I5 (stat I5 n5) st5 go
      refine thnF ti fun r s6 ⟨u, hr, h6⟩ => ?_
      subst hr
      refine thnF h6 fun _ s7 ⟨x, H7, I7, r7, y7, st7, n7⟩ => ?_
      have I7' := I7.pinned (stat I7 n7) (T.obj _ _ st7)
      refine thnF (pg.run _ s7 _ H7 x u _ I7' r7 (step x H7 y7)) fun _ s8 ⟨σ8, H8, I8, hw8, q8⟩ => ?_
      refine thnF (pt.run _ s8 σ8 H8 _ I8 q8) fun b s9 ⟨H9, I9, q9⟩ => ?_
      -- the turn's end
      have fin : ∀ {s' : Shared} {H' : Hp}, Inv (X.blk s3 H3 scope ce fp) ([] ++ pinsAt fp s7.heap) σ8 H' s' → Nx H' → ∃ m, m < n ∧ ∃ i H', Inv (X.blk s3 H3 scope ce fp) [] (wipe σ (own.map (·.2))) H' s' ∧ tn i s'.heap ∧ (∀ b ∈ fp, H' b = none) ∧ W i m H' := fun {s' H'} I' nx => by
        obtain ⟨m', hm, w'⟩ := hNx H' nx
        have pin' : ∀ b ∈ fp, ∀ o, s7.heap.get? b = some o → s'.heap.get? b = some o ∧ H' b = none := fun b hb o e =>
          let z := I'.pin (b, o) (List.mem_append_right _ (List.mem_append_right _ (mem_pinsAt hb e)))
          ⟨z.1, z.2.1⟩
        have hl : (wipe σ (own.map (·.2))).length = σ8.length := by rw [← hw8, wipe_length]
        refine ⟨m', hm, i + 1, H', (I'.unpinned (pins := [])).weak hl (fun j v e => ?_), T.keep _ _ _ st7 fun b hb o e => (pin' b hb o e).1, fun b hb => ?_, w'⟩
        · rw [← hw8] at e
          exact (wipe_some e).1
        · obtain ⟨o, e, _⟩ := T.obj _ _ st7 b hb
          exact (pin' b hb o e).2
      cases b with
      | false =>
        simp only [Bool.false_eq_true, if_false] at q9 ⊢
        exact fin I9 q9
      | true =>
        simp only [if_true] at q9 ⊢
        refine thnF (pk.run _ s9 σ8 H9 _ I9 q9) fun z s10 ⟨yk, H10, I10, r10, q10⟩ => ?_
        refine thnF (pe.run _ s10 σ8 H10 _ I10 q10) fun z2 s11 ⟨yv, H11, I11, r11, es, k, b, ek, hD11, hk11, hn11, hd11, hz11, nx⟩ => ?_
        subst ek
        exact d_dictSetX (X := X.blk s3 H3 scope ce fp) hu I11 hD11 hk11 hn11 hd11 hz11 r10 r11 fun s12 I12 => fin I12 nx
  exact codeAny_compStart_dict loop (T.self X.A 0 _ _ _ st4 loop)
/-- as a value -/
theorem pe_dcX {kx vx tg iter : Expr} {ifs : List Expr} {scope : Scope} {own : List (Str × Nat)} {pos : Pos} {wi : TI} {g : TG} {tt : TT} {tk tv : TE} (hu : X.A.units + 64 < cLine) (hc : X.calm = true) (hN : X.N.Nodup) (hi : PI X tg iter wi) (ok : BlkOk X.N X.env.scope scope own)
    (hg : ∀ (s : Shared) (H : Hp) (C : Addr) (cl : List (Str × Addr)) (fp : List Addr), PG (X.blk s H scope (compEnvC scope cl C X.env) fp) tg g) (ht : ∀ (s : Shared) (H : Hp) (C : Addr) (cl : List (Str × Addr)) (fp : List Addr), PTs (X.blk s H scope (compEnvC scope cl C X.env) fp) ifs tt)
    (hk : ∀ (s : Shared) (H : Hp) (C : Addr) (cl : List (Str × Addr)) (fp : List Addr), PE (X.blk s H scope (compEnvC scope cl C X.env) fp) kx tk)
    (he : ∀ (s : Shared) (H : Hp) (C : Addr) (cl : List (Str × Addr)) (fp : List Addr), PE (X.blk s H scope (compEnvC scope cl C X.env) fp) vx tv) (hs : ∀ x, foldedSetIterable iter X.env x = pure x := by intro _; rfl) :
    PE X (.DictComp kx vx [⟨tg, iter, ifs, 0⟩] scope pos) (tDcX X.K X.w wi g tt tk tv (own.map (·.2))) := by
  refine ⟨fun pins s σ H Q I h => ?_⟩
  rw [arm_eval_DictComp]
  refine dcX_core hu hc hN I hi ok hg ht hk he hs h fun D C s' m H' I' q hn f => ⟨m, hn, fun h'' sb => ?_⟩
  obtain ⟨f0, f1, f2, f3, f4, f5⟩ := f
  exact ⟨.ref D, H', I'.turned (t' := s'.toks) (fun b o hb e => (sb.2 b hb).trans e) f0 f1 f3 f4 f5, rfl, q⟩
end
/-- the entries, in turn -/
def dcM (bnd : D → Option Env) (t : Env → M Bool) (ek ev : Env → M D) : List D → List (D × D) → M (List (D × D))
  | [], acc => rt acc
  | d :: ds, acc => match bnd d with
    | none => stk
    | some ρ => bd (t ρ) fun b => iteM b (bd (ek ρ) fun y => bd (ev ρ) fun z => match keyT y with
      | some k => dcM bnd t ek ev ds (putN acc y k z)
      | none => stk) (dcM bnd t ek ev ds acc)
def newDcM (ks : List (D × D)) : M D := fun S => .ok (.ref S.length) (S ++ [.dct ks])
abbrev RE0 (c : Cf) (Ψ : Wd) (H : Hp) (Q : VK) : D → Sto → Prop := fun d S' => ∀ Ψ' v H', Ext Ψ H Ψ' H' → StoOk c Ψ' H' S' → Rep c Ψ' v d → Q v H'
structure GrowX (c : Cf) (Ψ1 : Wd) (H1 : Hp) (D0 : Addr) (R : List (D × D) → Sto → Prop) (m : List (D × D) → M (List (D × D))) (n : Nat) (H2 : Hp) : Prop where
  ex : ∃ Ψ2 S2 acc es, Ext Ψ1 H1 Ψ2 H2 ∧ StoOk c Ψ2 H2 S2 ∧ H2 D0 = some (.ext (DictEnt c.w D0 es)) ∧ EReps c Ψ2 es acc ∧ es.length ≤ n ∧ Ψ2.fz D0 = none ∧ ¬ Foot Ψ2 D0 ∧ Ok0 (m acc S2) R
section
variable {c : Cf} {W : L2.St → XK} {mi : Env → M (List D)} {mt : Env → M Bool} {mk mv : Env → M D} {t : Tg} {vs : List Nat}
theorem dcX_r (hv : ∀ i ∈ t.is, i ∈ vs) {σ : L2.St} {H : Hp} {Q : VK} (h : rE c W (fun ρ => bd (mi ρ) fun ds => bd (noX (dcM (fun d => bindD t d (wipeE ρ vs)) mt mk mv ds [])) newDcM) σ H Q) :
    tDcX c.K c.w (rIC c W mi) (gTg c.K t) (rT c WF mt) (rE c WF mk) (rE c WF mv) vs σ H Q := by
  obtain ⟨Ψ, ρ, S, F, so, eo, q⟩ := h
  refine ⟨Ψ, ρ, S, F, so, eo, q.bd.mono fun ds S1 q1 Ψ1 J H1 e1 so1 it => ?_⟩
  intro D0 hD
  obtain ⟨hl, G, Y, wk, hG, hY⟩ := it
  have q2 := Post.ok0 (Post.bd q1)
  obtain ⟨F', eo', sub⟩ := eo.wipes vs
  refine it_gen (H0 := L2.upd H1 D0 (.ext (DictEnt c.w D0 []))) (B := fun x H' Nx => gTg c.K t x (wipe σ vs) H' fun σ2 H2 => wipe σ2 vs = wipe σ vs ∧ rT c WF mt σ2 H2 fun b H3 =>
      if b = true then rE c WF mk σ2 H3 fun y H4 => rE c WF mv σ2 H4 fun z H5 => ∃ es k b, y = .ref b ∧ H5 D0 = some (.ext (DictEnt c.w D0 es)) ∧ KeysIn c.K H5 es ∧ NV c.K H5 (.ref b) k ∧ k.depth ≤ 8 ∧ es.length < LIM ∧ Nx (L2.upd H5 D0 (.ext (DictEnt c.w D0 (putE es k b z)))) else Nx H3)
    wk (fun i H2 => GrowX c Ψ1 H1 D0 (fun ks S' => Post c (W σ) Ψ H (newDcM ks S') (RE0 c Ψ H Q)) (dcM (fun d => bindD t d (wipeE ρ vs)) mt mk mv (ds.drop i)) i H2) ?_ ?_ ?_ ?_
  · exact ⟨Ψ1, S1, [], [], Ext.lay hD, so1.lay hD, upd_same, .nil, Nat.zero_le _, so1.phiNone hD, so1.footNone hD, q2⟩
  · rintro i H2 hi ⟨Ψ2, S2, acc, es, x2, s2, _⟩
    exact hG Ψ2 S2 H2 x2 s2
  · rintro i x H2 H3 hi ⟨Ψ2, S2, acc, es, x2, s2, h2, r2, l2, p2, f2, k2⟩ y
    have hd : ds[i]? = some ds[i] := List.getElem?_eq_getElem hi
    obtain ⟨Ψ3, x3, s3, r3⟩ := hY i H2 x H3 Ψ2 S2 _ x2 s2 hd y
    have e13 := x2.trans x3
    rw [List.drop_eq_getElem_cons hi] at k2
    unfold dcM at k2
    cases hb : bindD t ds[i] (wipeE ρ vs) with
    | none => rw [hb] at k2; exact k2.elim
    | some ρ' =>
      rw [hb] at k2
      have k3 : Ok0 (bd (mt ρ') (fun b => iteM b (bd (mk ρ') fun y => bd (mv ρ') fun z => match keyT y with
        | some k => dcM (fun d => bindD t d (wipeE ρ vs)) mt mk mv (ds.drop (i + 1)) (putN acc y k z)
        | none => stk) (dcM (fun d => bindD t d (wipeE ρ vs)) mt mk mv (ds.drop (i + 1)) acc)) S2) _ := k2
      refine bind_ok s3 (eo'.ext (e1.trans e13)) r3 hb fun σ' F'' eo3 _ hw _ => ?_
      refine ⟨(hw vs hv).trans (wipe_wipe fun _ h => h), Ψ3, ρ', S2, F'', s3, eo3, (k3.bd.post).mono fun b S4 q4 Ψ4 H4 x4 s4 => ?_⟩
      have hD3 := x3.keep _ _ h2 f2
      have fr3 := x3.free p2 f2 (by rw [h2]; exact fun z => nomatch z)
      have hD4 := x4.keep _ _ hD3 fr3.2
      have fr4 := x4.free fr3.1 fr3.2 (by rw [hD3]; exact fun z => nomatch z)
      have e14 := e13.trans x4
      cases b with
      | false =>
        show if false = true then _ else _
        rw [if_neg Bool.false_ne_true]
        exact ⟨Ψ4, S4, acc, es, e14, s4, hD4, r2.mono (x3.le.trans x4.le), Nat.le_succ_of_le l2, fr4.1, fr4.2, q4⟩
      | true =>
        show if true = true then _ else _
        rw [if_pos rfl]
        have q5 : Ok0 (bd (mk ρ') (fun y => bd (mv ρ') fun z => match keyT y with
          | some k => dcM (fun d => bindD t d (wipeE ρ vs)) mt mk mv (ds.drop (i + 1)) (putN acc y k z)
          | none => stk) S4) _ := q4
        refine ⟨Ψ4, ρ', S4, F'', s4, eo3.ext x4, (q5.bd.post).mono fun dy S5 q6 Ψ5 y5 H5 x5 s5 r5 => ?_⟩
        have hD5 := x5.keep _ _ hD4 fr4.2
        have fr5 := x5.free fr4.1 fr4.2 (by rw [hD4]; exact fun z => nomatch z)
        have e15 := e14.trans x5
        refine ⟨Ψ5, ρ', S5, F'', s5, (eo3.ext x4).ext x5, (q6.bd.post).mono fun dz S6 q7 Ψ6 z6 H6 x6 s6 r6 => ?_⟩
        have hD6 := x6.keep _ _ hD5 fr5.2
        have fr6 := x6.free fr5.1 fr5.2 (by rw [hD5]; exact fun z => nomatch z)
        have e16 := e15.trans x6
        have q8 : Ok0 ((match keyT dy with
          | some k => dcM (fun d => bindD t d (wipeE ρ vs)) mt mk mv (ds.drop (i + 1)) (putN acc dy k dz)
          | none => stk) S6) (fun ks S' => Post c (W σ) Ψ H (newDcM ks S') (RE0 c Ψ H Q)) := q7
        cases hkk : keyT dy with
        | none => rw [hkk] at q8; exact q8.elim
        | some kk =>
        rw [hkk] at q8
        obtain ⟨b1, rfl, rb, n1, d1, hkd⟩ := key_rep s6 (.inl (r5.mono x6.le)) hkk
        have r6' : EReps c Ψ6 es acc := r2.mono (((x3.le.trans x4.le).trans x5.le).trans x6.le)
        refine ⟨es, kk, b1, rfl, hD6, r6'.keys s6, n1, d1, by omega, Ψ6, S6, putN acc dy kk dz, putE es kk b1 z6, e16.updP hD, s6.updF fr6.1 fr6.2, upd_same, r6'.put rb hkd d1 r6, Nat.le_trans (putE_len es kk b1 z6) (Nat.succ_le_succ l2), fr6.1, fr6.2, q8⟩
  · rintro H2 ⟨Ψ2, S2, acc, es, x2, s2, h2, r2, l2, p2, f2, k2⟩
    rw [List.drop_eq_nil_of_le (Nat.le_refl _)] at k2
    have k3 : Post c (W σ) Ψ H (newDcM acc S2) (RE0 c Ψ H Q) := k2
    have k4 : ∀ Ψ' v H', Ext Ψ H Ψ' H' → StoOk c Ψ' H' (S2 ++ [.dct acc]) → Rep c Ψ' v (.ref S2.length) → Q v H' := k3
    refine k4 (Ψ2.share D0) (.ref D0) H2 ((e1.trans x2).share (e1.dom D0 hD)) (s2.shareX h2 p2 f2 r2) (.obj (n := S2.length) (p := (D0, D0)) ?_)
    show (Ψ2.sh ++ [(D0, D0)])[S2.length]? = _
    rw [← s2.len, List.getElem?_append_right (Nat.le_refl _), Nat.sub_self]
    rfl
end
section
variable {c : Cf} {X : Cx} {W : L2.St → XK} {mi : Env → M (List D)} {mt : Env → M Bool} {mk mv : Env → M D} {t : Tg} {kx vx tg iter : Expr} {ifs : List Expr} {scope : Scope} {own : List (Str × Nat)} {pos : Pos}
theorem se_dcX (hw : X.w = c.w) (hu : X.A.units + 64 < cLine) (hi : SIC c X W tg iter mi) (hN : X.N.Nodup) (ok : BlkOk X.N X.env.scope scope own) (hv : ∀ i ∈ t.is, i ∈ own.map (·.2))
    (hg : ∀ (s : Shared) (H : Hp) (C : Addr) (cl : List (Str × Addr)) (fp : List Addr), SG (X.blk s H scope (compEnvC scope cl C X.env) fp) tg t) (ht : ∀ (s : Shared) (H : Hp) (C : Addr) (cl : List (Str × Addr)) (fp : List Addr), STs c (X.blk s H scope (compEnvC scope cl C X.env) fp) WF ifs mt)
    (hk : ∀ (s : Shared) (H : Hp) (C : Addr) (cl : List (Str × Addr)) (fp : List Addr), SE c (X.blk s H scope (compEnvC scope cl C X.env) fp) WF kx mk)
    (he : ∀ (s : Shared) (H : Hp) (C : Addr) (cl : List (Str × Addr)) (fp : List Addr), SE c (X.blk s H scope (compEnvC scope cl C X.env) fp) WF vx mv) (hc : X.calm = true := by rfl) (hs : ∀ x, foldedSetIterable iter X.env x = pure x := by intro _; rfl) :
    SE c X W (.DictComp kx vx [⟨tg, iter, ifs, 0⟩] scope pos) (fun ρ => bd (mi ρ) fun ds => bd (noX (dcM (fun d => bindD t d (wipeE ρ (own.map (·.2)))) mt mk mv ds [])) newDcM) :=
  ⟨hi.k, PE.imp (pe_dcX hu hc hN hi.p ok (fun s H C cl fp => hi.k ▸ (hg s H C cl fp).p) (fun s H C cl fp => (ht s H C cl fp).p) (fun s H C cl fp => (hk s H C cl fp).p) (fun s H C cl fp => (he s H C cl fp).p) hs) fun σ H Q h => by rw [hi.k, hw]; exact dcX_r hv h⟩
end
/-! ### x op= e, ints -/
def asN (d : D) : M Int := fun S => match d with
  | .int i => .ok i S
  | _ => .stuck
theorem asN_post {α : Type} {c : Cf} {W : XK} {Ψ : Wd} {H : Hp} {R : α → Sto → Prop} {d : D} {k : Int → M α} {S : Sto} (h : Post c W Ψ H (bd (asN d) k S) R) : ∃ i, d = .int i ∧ Post c W Ψ H (k i S) R := by
  unfold bd asN at h
  cases d <;> first | exact h.elim | exact ⟨_, rfl, h⟩
def augM (j : Nat) (f : Int → Int → Int) (m : Env → M D) : Env → M Out := fun ρ => bd (vl ρ j) fun x => bd (m ρ) fun y => bd (asN x) fun i => bd (asN y) fun k => rt (.nx (ρ.set j (.val (.int (f i k)))))
section
variable {c : Cf} {X : Cx} {E : XK} {x : Str} {e : Expr} {me : Env → M D} {j : Nat} {pos pos' : Pos} {op : Operator} {f : Int → Int → Int}
theorem ss_augI (ho : PIp X op (ipI f)) (hN : X.N.Nodup) (h : SE c X (cW E) e me) (hj : X.N[j]? = some x := by rfl) (hx : Loc X.env.scope x := by first | exact .inl rfl | exact .inr rfl) (hf : X.fn x = true ∨ X.env.scope.names.lookup x = some .local := by first | exact .inl rfl | exact .inr rfl) :
    SS c X E (.AugAssign (.Name x pos') op e pos) (augM j f me) := by
  refine ⟨h.k, PS.imp (ps_aug hN hj hx h.p ho hf) fun D σ H ⟨B, Ψ, ρ, S, F, gd, q⟩ => ?_⟩
  have q1 := Post.bd q
  unfold vl at q1
  split at q1
  · rename_i d0 hs0
    obtain ⟨_, v0, e1, r0⟩ := gd.eo.slot j _ hs0
    have q2 : Post c E B.wd B.H (bd (me ρ) (fun y => bd (asN d0) fun i => bd (asN y) fun k => rt (Out.nx (ρ.set j (.val (.int (f i k)))))) S) (OutP c B D) := q1
    refine ⟨v0, e1, Ψ, ρ, S, F, gd.so, gd.eo, (q2.bd.ext gd.x).mono fun y S1 q3 Ψ1 u H1 x1 s1 r1 => ?_⟩
    obtain ⟨i, rfl, q4⟩ := asN_post q3
    obtain ⟨k, rfl, q5⟩ := asN_post q4
    cases r0
    cases r1
    exact ⟨i, k, rfl, rfl, q5 Ψ1 _ H1 _ ((gd.ext x1 s1).setV j (.int _))⟩
  · exact q1.elim
end
end Sm

/-! text: Sim69 -/
set_option Elab.async false
set_option linter.all false
set_option maxRecDepth 100000
set_option maxHeartbeats 4000000
namespace Sm
open PySem PySem.Spec PyProof.Rows L2
/-! ### try: x = e; .. / except C: ..  where only e may raise -/
section
variable {c : Cf} {X : Cx} {W : XK} {x y : Str} {e : Expr} {me : Env → M D} {mh mr : Env → M Out} {suite rest : List Stmt} {b₀ : Stmt} {np rp pos pos' pos2 : Pos} {i : Nat}
end
end Sm
namespace Sm
open PySem PySem.Spec PyProof.Rows L2
/-! ### self.f in __init__ -/
def selfG (k i : Nat) : Env → M D := fun ρ S => match ρ[0]? with
  | some (Slot.ownI k' fs) => (match Nat.decEq k' k with
    | .isTrue _ => (match fs[i]? with
      | some (some d) => .ok d S
      | _ => .stuck)
    | .isFalse _ => .stuck)
  | _ => .stuck
theorem se_selfG {c : Cf} {X : Cx} {WW : L2.St → XK} {x f : Str} {k i : Nat} {px pos : Pos} {ad : Addr} (hk : X.K = c.K) (C : SlX.SCls c.K (c.cls k)) (t : SlX.Slot1 c.K (c.cls k) f ad i) (hN : X.N[0]? = some x := by rfl) (hv : Vis X.env.scope x := by first | exact Or.inl rfl | exact Or.inr (Or.inl rfl) | exact Or.inr (Or.inr rfl)) (hd : (x == ("__debug__" : Str)) = false := by decide)
    (hcd : (x == ("__classdict__" : Str)) = false := by decide) (hb : attributeBase (.Name x px) f X.env (eval (.Name x px) X.env) = eval (.Name x px) X.env := by rfl) : SE c X WW (.Attribute (.Name x px) f pos) (selfG k i) := by
  refine ⟨hk, PE.imp (SlX.pe_sl (pe_var hN hv hd hcd) hb) fun σ H Q ⟨Ψ, ρ, S, F, so, eo, q⟩ => ?_⟩
  unfold selfG at q
  split at q
  · rename_i k' fs hs0
    split at q
    · rename_i ek _
      split at q
      · rename_i d hd0
        subst ek
        obtain ⟨a', dx, vs, hF, h1, h2, h3, h4, h5, h6⟩ := eo.slot 0 _ hs0
        obtain ⟨v, hv0, rv⟩ := h6 _ _ hd0
        exact ⟨.ref a', h1, a', _, dx, ad, vs, i, v, rfl, h2, hk ▸ C, hk ▸ t, hv0, q Ψ v H (Ext.refl _ _) so rv⟩
      · exact q.elim
    · exact q.elim
  · exact q.elim
end Sm

/-! text: Sim70 -/
set_option Elab.async false
set_option linter.all false
set_option maxRecDepth 100000
set_option maxHeartbeats 4000000
namespace Sm
open PySem PySem.Spec PyProof.Rows L2
/-! ### keys that are tuples of None, ints and texts: a typed table -/
def kc : Nat → D → Bool
  | _, .non => true
  | _, .int _ => true
  | _, .str _ => true
  | n + 1, .tup ds => ds.all (kc n)
  | _, _ => false
theorem kcs_nk (n : Nat) (ih : ∀ d, kc n d = true → ∃ k, nkD d = some k ∧ k.depth ≤ n) : ∀ ds : List D, ds.all (kc n) = true → ∃ ks, nkDs ds = some ks ∧ NestedKey.depthAll ks ≤ n
  | [], _ => ⟨[], rfl, by simp [NestedKey.depthAll]⟩
  | d :: ds, h => by
    rw [List.all_cons, Bool.and_eq_true] at h
    obtain ⟨k, h1, h2⟩ := ih d h.1
    obtain ⟨ks, h3, h4⟩ := kcs_nk n ih ds h.2
    refine ⟨k :: ks, by unfold nkDs; rw [h1, h3], ?_⟩
    simp only [NestedKey.depthAll]
    exact Nat.max_le.mpr ⟨h2, h4⟩
theorem kc_nk : ∀ (n : Nat) (d : D), kc n d = true → ∃ k, nkD d = some k ∧ k.depth ≤ n := by
  intro n
  induction n with
  | zero =>
    intro d h
    cases d with
    | non => exact ⟨_, by unfold nkD; rfl, by simp [NestedKey.depth]⟩
    | int i => exact ⟨_, by unfold nkD; rfl, by simp [NestedKey.depth]⟩
    | str z => exact ⟨_, by unfold nkD; rfl, by simp [NestedKey.depth]⟩
    | _ => simp [kc] at h
  | succ n ih =>
    intro d h
    cases d with
    | non => exact ⟨_, by unfold nkD; rfl, by simp [NestedKey.depth]⟩
    | int i => exact ⟨_, by unfold nkD; rfl, by simp [NestedKey.depth]⟩
    | str z => exact ⟨_, by unfold nkD; rfl, by simp [NestedKey.depth]⟩
    | tup ds =>
      obtain ⟨ks, h1, h2⟩ := kcs_nk n ih ds (by unfold kc at h; exact h)
      exact ⟨.tup ks, by unfold nkD; rw [h1], by simp only [NestedKey.depth]; omega⟩
    | _ => simp [kc] at h
theorem nks_inj (n : Nat) (ih : ∀ d e, kc n d = true → kc n e = true → nkD d = nkD e → d = e) : ∀ ds es : List D, ds.all (kc n) = true → es.all (kc n) = true → nkDs ds = nkDs es → ds = es
  | [], [], _, _, _ => rfl
  | [], e :: es, _, h, q => by
    obtain ⟨ks, h1, _⟩ := kcs_nk n (kc_nk n) (e :: es) h
    rw [h1] at q
    unfold nkDs at h1
    split at h1
    · split at h1
      · cases h1; simp [nkDs] at q
      · cases h1
    · cases h1
  | e :: es, [], h, _, q => by
    obtain ⟨ks, h1, _⟩ := kcs_nk n (kc_nk n) (e :: es) h
    rw [h1] at q
    unfold nkDs at h1
    split at h1
    · split at h1
      · cases h1; simp [nkDs] at q
      · cases h1
    · cases h1
  | d :: ds, e :: es, h, h', q => by
    rw [List.all_cons, Bool.and_eq_true] at h h'
    obtain ⟨k, a1, _⟩ := kc_nk n d h.1
    obtain ⟨ks, a2, _⟩ := kcs_nk n (kc_nk n) ds h.2
    obtain ⟨l, b1, _⟩ := kc_nk n e h'.1
    obtain ⟨ls, b2, _⟩ := kcs_nk n (kc_nk n) es h'.2
    unfold nkDs at q
    rw [a1, a2, b1, b2] at q
    dsimp only at q
    cases q
    rw [ih d e h.1 h'.1 (a1.trans b1.symm), nks_inj n ih ds es h.2 h'.2 (a2.trans b2.symm)]
theorem nk_inj : ∀ (n : Nat) (d e : D), kc n d = true → kc n e = true → nkD d = nkD e → d = e := by
  intro n
  induction n with
  | zero =>
    intro d e h h' q
    cases d <;> cases e <;> simp_all [kc, nkD]
  | succ n ih =>
    intro d e h h' q
    by_cases td : ∃ ds, d = .tup ds
    · obtain ⟨ds, rfl⟩ := td
      obtain ⟨ks, a2, _⟩ := kcs_nk n (kc_nk n) ds (by unfold kc at h; exact h)
      cases e with
      | tup es =>
        obtain ⟨ls, b2, _⟩ := kcs_nk n (kc_nk n) es (by unfold kc at h'; exact h')
        unfold nkD at q
        rw [a2, b2] at q
        dsimp only at q
        cases q
        rw [nks_inj n ih ds es (by unfold kc at h; exact h) (by unfold kc at h'; exact h') (a2.trans b2.symm)]
      | _ => simp_all [kc, nkD]
    · cases e with
      | tup es =>
        obtain ⟨ls, b2, _⟩ := kcs_nk n (kc_nk n) es (by unfold kc at h'; exact h')
        cases d with
        | tup ds => exact absurd ⟨ds, rfl⟩ td
        | _ => simp_all [kc, nkD]
      | _ => cases d <;> simp_all [kc, nkD]
/-- keys by a type -/
structure KE {κ : Type} (enc : κ → D) : Prop where
  tp : ∀ x, ∃ ds, enc x = .tup ds
  cl : ∀ x, kc 8 (enc x) = true
  inj : ∀ x y, enc x = enc y → x = y
section
variable {κ β : Type} [DecidableEq κ] {enc : κ → D} (E : KE enc) {val : β → D}
def lk (l : List (κ × β)) (x : κ) : Option β := match l with
  | [] => none
  | p :: r => if p.1 = x then some p.2 else lk r x
def dk (enc : κ → D) (val : β → D) (l : List (κ × β)) : List (D × D) := l.map fun p => (enc p.1, val p.2)
include E in
theorem KE.key (x : κ) : ∃ k, keyT (enc x) = some k ∧ nkD (enc x) = some k := by
  obtain ⟨k, h1, h2⟩ := kc_nk 8 _ (E.cl x)
  obtain ⟨ds, e⟩ := E.tp x
  have h3 := h1
  rw [e] at h3
  unfold nkD at h3
  split at h3
  · cases h3
    refine ⟨_, ?_, h1⟩
    unfold keyT
    rw [h1]
    exact if_pos h2
  · cases h3
include E in
theorem getN_dk (l : List (κ × β)) (x : κ) {k : NestedKey} (hk : nkD (enc x) = some k) : getN (dk enc val l) k = (lk l x).map val := by
  induction l with
  | nil => rfl
  | cons p r ih =>
    show (if nkD (enc p.1) = some k then some (val p.2) else getN (dk enc val r) k) = _
    unfold lk
    by_cases h : p.1 = x
    · rw [if_pos h, if_pos (by rw [h, hk])]; rfl
    · rw [if_neg h, if_neg (fun q => h (E.inj _ _ (nk_inj 8 _ _ (E.cl _) (E.cl _) (q.trans hk.symm)))), ih]
theorem dk_len (l : List (κ × β)) : (dk enc val l).length = l.length := List.length_map _
include E in
theorem putN_dk (l : List (κ × β)) (x : κ) (v : β) {k : NestedKey} (hk : nkD (enc x) = some k) (hn : lk l x = none) : putN (dk enc val l) (enc x) k (val v) = dk enc val (l ++ [(x, v)]) := by
  unfold putN
  rw [getN_dk E l x hk, hn, if_neg (show ¬ ((none : Option β).map val).isSome = true from fun h => nomatch h)]
  unfold dk
  rw [List.map_append]
  rfl
theorem dctS_at {S : Sto} {n : Nat} {ks : List (D × D)} (h : S[n]? = some (.dct ks)) : dctS (.ref n) S = some ks := by
  unfold dctS
  simp only [h]
include E in
theorem inT_dk {S : Sto} {n : Nat} {l : List (κ × β)} (h : S[n]? = some (.dct (dk enc val l))) (neg : Bool) (x : κ) : inT neg (enc x) (.ref n) S = some (.bl ((lk l x).isSome != neg)) := by
  obtain ⟨k, h1, h2⟩ := E.key x
  unfold inT
  rw [dctS_at h, h1]
  dsimp only
  rw [getN_dk E l x h2, Option.isSome_map]
include E in
theorem getT_dk {S : Sto} {n : Nat} {l : List (κ × β)} (h : S[n]? = some (.dct (dk enc val l))) {x : κ} {v : β} (hv : lk l x = some v) : getT (.ref n) (enc x) S = some (val v) := by
  obtain ⟨k, h1, h2⟩ := E.key x
  unfold getT
  rw [dctS_at h, h1]
  dsimp only
  rw [getN_dk E l x h2, hv]
  rfl
include E in
theorem putT_dk {S : Sto} {n : Nat} {l : List (κ × β)} (h : S[n]? = some (.dct (dk enc val l))) {x : κ} {v : β} (hv : lk l x = none) (hl : l.length < LIM) (ρ : Env) : putT (.ref n) (enc x) (val v) ρ S = .ok (.nx ρ) (S.set n (.dct (dk enc val (l ++ [(x, v)])))) := by
  obtain ⟨k, h1, h2⟩ := E.key x
  unfold putT
  simp only [h, h1]
  rw [if_pos (by rw [dk_len]; exact hl), putN_dk E l x v h2 hv]
include E in
theorem newT1_dk (x : κ) (v : β) (S : Sto) : newT1 (enc x) (val v) S = .ok (.ref S.length) (S ++ [.dct (dk enc val [(x, v)])]) := by
  obtain ⟨k, h1, h2⟩ := E.key x
  unfold newT1
  rw [h1]
  rfl
/-- one value for all keys -/
def addAll (v : β) : List (κ × β) → List κ → List (κ × β)
  | acc, [] => acc
  | acc, x :: xs => addAll v (if (lk acc x).isSome = true then acc else acc ++ [(x, v)]) xs
theorem repN_same (k : NestedKey) (v : D) : ∀ (l : List (D × D)), (∀ p ∈ l, p.2 = v) → repN k v l = l
  | [], _ => rfl
  | p :: r, h => by
    unfold repN
    rw [repN_same k v r fun q hq => h q (List.mem_cons_of_mem _ hq)]
    have : p.2 = v := h p List.mem_cons_self
    split
    · rw [← this]
    · rfl
include E in
theorem dcM_all (bnd : D → Option Env) (t : Env → M Bool) (ek ev : Env → M D) (v : β) (S : Sto) : ∀ (xs : List κ) (acc : List (κ × β)), (∀ x ∈ xs, ∃ ρ, bnd (enc x) = some ρ ∧ t ρ S = .ok true S ∧ ek ρ S = .ok (enc x) S ∧ ev ρ S = .ok (val v) S) → (∀ p ∈ acc, p.2 = v) →
    dcM bnd t ek ev (xs.map enc) (dk enc val acc) S = .ok (dk enc val (addAll v acc xs)) S
  | [], acc, _, _ => rfl
  | x :: xs, acc, h, ha => by
    obtain ⟨ρ, h1, h2, h3, h4⟩ := h x List.mem_cons_self
    obtain ⟨k, k1, k2⟩ := E.key x
    rw [List.map_cons]
    unfold dcM addAll
    rw [h1]
    dsimp only
    unfold bd iteM
    simp only [h2, h3, h4]
    rw [k1]
    dsimp only
    by_cases hs : (lk acc x).isSome = true
    · rw [if_pos hs]
      have : putN (dk enc val acc) (enc x) k (val v) = dk enc val acc := by
        unfold putN
        rw [getN_dk E acc x k2, Option.isSome_map, if_pos hs]
        refine repN_same k _ _ fun p hp => ?_
        obtain ⟨q, hq, rfl⟩ := List.mem_map.mp hp
        show val q.2 = val v
        rw [ha q hq]
      rw [this]
      exact dcM_all bnd t ek ev v S xs acc (fun y hy => h y (List.mem_cons_of_mem _ hy)) ha
    · rw [if_neg hs, putN_dk E acc x v k2 (by cases z : lk acc x <;> simp_all)]
      refine dcM_all bnd t ek ev v S xs _ (fun y hy => h y (List.mem_cons_of_mem _ hy)) fun p hp => ?_
      rcases List.mem_append.mp hp with hp | hp
      · exact ha p hp
      · rw [List.mem_singleton.mp hp]
end
end Sm

/-! text: Sim71 -/
set_option Elab.async false
set_option linter.all false
set_option maxRecDepth 100000
set_option maxHeartbeats 4000000
namespace Sm
open PySem PySem.Spec PyProof.Rows L2
/-! ### own dicts by ints or texts: made empty, looked into, frozen; d.get(k, e) -/
section
variable {c : Cf} {X : Cx} {W : XK} {WW : L2.St → XK} {pos pos' apos cpos : Pos} {i j : Nat} {x y : Str} {a b e o : Expr}
/-- x = {} -/
theorem ss_setD0 {p : Pos} (hk : X.K = c.K) (hN : X.N.Nodup) (hi : X.N[i]? = some x := by rfl) (hx : Loc X.env.scope x := by first | exact Or.inl rfl | exact Or.inr rfl)
    (hs : swapsWith (.Dict [] [] p) (some (.Name x pos')) pos.line X.env = pure false := by rfl) (hf : X.fn x = true ∨ X.env.scope.names.lookup x = some .local := by first | exact .inl rfl | exact .inr rfl) :
    SS c X W (.Assign [.Name x pos'] (.Dict [] [] p) pos) (fun ρ => rt (.nx (ρ.set i (.ownD [])))) := by
  refine ⟨hk, PS.imp (ps_set hN hi hx pe_dnewK hs hf) fun D σ H ⟨B, Ψ, ρ, S, F, g, q⟩ => fun p hp => ?_⟩
  have s1 := g.so
  have n := s1.phiNone hp
  have g2 := g.ext (Ext.lay (o := .dK []) hp) (s1.lay hp)
  have g3 : ∃ F', Gd c B Ψ (σ.set i (some (.ref p))) (ρ.set i (.ownD [])) (L2.upd H p (.dK [])) F' S := by
    refine g2.setO i (o := some (.ref p)) (s := .ownD []) (As := [p]) ⟨p, [], rfl, rfl, upd_same, rfl, .nil⟩ (fun b hb => ?_) (fun b hb j _ hj => ?_) (fun _ _ z => nomatch z)
    · rcases List.mem_singleton.mp hb with rfl
      have h0 : L2.upd H b (.dK []) b ≠ none := by rw [upd_same]; exact fun z => nomatch z
      exact ⟨n, s1.footNone hp, h0, g.x.dom _ hp⟩
    · rcases List.mem_singleton.mp hb with rfl
      exact (g.eo.priv j _ hj).2.2 hp
  obtain ⟨F', g3⟩ := g3
  exact q Ψ _ _ F' g3
/-- k in d, by values -/
def rInK (neg : Bool) : R2 := fun y x H Q => ∃ a kvs k, y = kV k ∧ x = .ref a ∧ H a = some (.dK kvs) ∧ Q (.bl ((valV kvs k).isSome != neg)) H
theorem op_ninK : OpR X (compareOp .NotIn) (rInK true) := by
  intro pins s σ H y x u v Q I ry rx ⟨a, kvs, k, ey, ex, he, q⟩
  subst ey ex
  obtain rfl : v = Value.ref a := rx
  obtain ⟨_, h1, vs, rel, dd⟩ := dk_of I.hok he
  refine wpAny_notIn_of (kV_is ry) h1 dd.mapOf ?_
  have e : (valueAt vs k).isSome = (valV kvs k).isSome := (rel.val k).isSome_eq.symm
  rw [e]
  exact ⟨.bl (!(valV kvs k).isSome), H, I.tok _, rfl, by simpa using q⟩
theorem KReps.isS {Ψ : Wd} {kvs : List (Key × V)} {ks : List (Key × D)} (h : KReps c Ψ kvs ks) (k : Key) : (valV kvs k).isSome = (getL ks k).isSome := by
  induction h with
  | nil => rfl
  | @cons k' v' d' kvs ks h t ih =>
    by_cases e : k' = k
    · have a1 : valV ((k', v') :: kvs) k = some v' := by simp [valV, e]
      have a2 : getL ((k', d') :: ks) k = some d' := by simp [getL, e]
      rw [a1, a2]; rfl
    · have a1 : valV ((k', v') :: kvs) k = valV kvs k := by simp [valV, e]
      have a2 : getL ((k', d') :: ks) k = getL ks k := by simp [getL, e]
      rw [a1, a2]; exact ih
def inKM (neg : Bool) (i : Nat) (m : Env → M D) : Env → M D := fun ρ => bd (m ρ) fun k => bd (dctAt ρ i) fun ks => opt ((keyD k).map fun kk => .bl ((getL ks kk).isSome != neg))
theorem inK_r {neg : Bool} {m : Env → M D} (h : SE c X WW e m) {px : Pos} (hN : X.N[i]? = some x) {σ : L2.St} {H : Hp} {Q : VK} (q : rE c WW (inKM neg i m) σ H Q) : tOp (rInK neg) (rE c WW m) (tVar i) σ H Q := by
  obtain ⟨Ψ, ρ, S, F, so, eo, q⟩ := q
  refine ⟨Ψ, ρ, S, F, so, eo, (Post.bd q).mono fun k S1 q1 Ψ1 kv H1 x1 s1 r1 => ?_⟩
  obtain ⟨ks, a, kvs, hr, hF, h1, h2, kr, q2⟩ := dct_at eo q1
  have h2' : H1 a = some (.dK kvs) := x1.keep _ _ h2 (eo.priv i a (by rw [hF]; simp)).2.1
  unfold opt at q2
  cases hk : keyD k with
  | none => rw [hk] at q2; exact q2.elim
  | some kk =>
    rw [hk] at q2
    have q3 : ∀ Ψ' v H', Ext Ψ H Ψ' H' → StoOk c Ψ' H' S1 → Rep c Ψ' v (.bl ((getL ks kk).isSome != neg)) → Q v H' := q2
    exact ⟨.ref a, h1, a, kvs, kk, keyD_rep r1 hk, rfl, h2', by rw [kr.isS kk]; exact q3 Ψ1 _ H1 x1 s1 (.bl _)⟩
/-- the own dict at i may no more be changed: it is a value -/
def frzDE (i : Nat) (ρ : Env) : Env := match ρ[i]? with
  | some (.ownD ks) => ρ.set i (.val (.dct ks))
  | _ => ρ
theorem Gd.frzD {B : Bs} {Ψ : Wd} {σ : L2.St} {ρ : Env} {H : Hp} {F : Nat → List Addr} {S : Sto} (g : Gd c B Ψ σ ρ H F S) (i : Nat) : ∃ Ψ' F', Gd c B Ψ' σ (frzDE i ρ) H F' S := by
  unfold frzDE
  split
  · rename_i ks hs
    obtain ⟨a, kvs, hF, h1, h2, l, h3⟩ := g.eo.slot i _ hs
    have ha : a ∈ F i := by rw [hF]; simp
    have pr := g.eo.priv i a ha
    have hi : i < ρ.length := (List.getElem?_eq_some_iff.mp hs).1
    have lk : Le Ψ (Ψ.know a (.dK kvs)) := Le.know pr.1
    have phi : ∀ b o, (Ψ.know a (.dK kvs)).fz b = some o → Ψ.fz b = some o ∨ b = a := fun b o e => by
      by_cases z : b = a
      · exact .inr z
      · have e' : L2.upd Ψ.fz a (.dK kvs) b = some o := e
        rw [upd_ne z] at e'
        exact .inl e'
    refine ⟨Ψ.know a (.dK kvs), off F i, ⟨g.x.le.trans lk, g.x.dom, fun b o e => ?_, g.x.nmu, g.x.keep⟩, g.so.know h2 pr.1 pr.2.1, ⟨by rw [List.length_set]; exact g.eo.len, fun j s hj => ?_, fun j hj => ?_, fun j b hb => ?_, fun p q b ne hp hq => g.eo.sep p q b ne (off_sub hp).1 (off_sub hq).1⟩, fun j b hb => g.fr j b (off_sub hb).1, fun k fs h => ?_⟩
    · rcases phi b o e with z | rfl
      · exact g.x.nphi b o z
      · exact .inr (.inl (g.fr i _ ha))
    · by_cases z : j = i
      · subst z
        rw [List.getElem?_set_self hi] at hj
        cases hj
        exact ⟨off_eq, _, h1, .dct (show L2.upd Ψ.fz a _ a = _ from upd_same) l (h3.mono lk)⟩
      · rw [List.getElem?_set_ne (Ne.symm z)] at hj
        rw [off_ne z]
        exact (g.eo.slot j s hj).keep lk fun _ _ _ h => h
    · by_cases z : j = i
      · subst z; exact off_eq
      · rw [List.getElem?_set_ne (Ne.symm z)] at hj
        rw [off_ne z]; exact g.eo.out j hj
    · obtain ⟨hb1, hb2⟩ := off_sub hb
      obtain ⟨p1, p2, p3⟩ := g.eo.priv j b hb1
      refine ⟨?_, p2, p3⟩
      have z : b ≠ a := fun e => g.eo.sep j i b hb2 hb1 (by rw [e]; exact ha)
      show L2.upd Ψ.fz a (.dK kvs) b = none
      rw [upd_ne z]; exact p1
    · rcases set0 h with ⟨_, z⟩ | ⟨n, z⟩
      · cases z
      · exact g.me k fs z
  · exact ⟨Ψ, F, g⟩
theorem ss_frzD (i : Nat) {st : Stmt} {a : Env → M Out} (h : SS c X W st a) : SS c X W st (fun ρ => a (frzDE i ρ)) :=
  ⟨h.k, PS.imp h.p fun D σ H ⟨B, Ψ, ρ, S, F, g, q⟩ => by
    obtain ⟨Ψ', F', g'⟩ := g.frzD i
    exact ⟨B, Ψ', frzDE i ρ, S, F', g', q⟩⟩
/-- d.get(k, z), d a frozen one -/
def dctV (x : D) : M (List (Key × D)) := fun S => match x with
  | .dct ks => .ok ks S
  | _ => .stuck
def getK (ks : List (Key × D)) (k z : D) : M D := fun S => match keyD k with
  | some kk => .ok ((getL ks kk).getD z) S
  | none => .stuck
theorem KReps.getD {Ψ : Wd} {kvs : List (Key × V)} {ks : List (Key × D)} (h : KReps c Ψ kvs ks) (k : Key) {zv : V} {z : D} (rz : Rep c Ψ zv z) : Rep c Ψ ((valV kvs k).getD zv) ((getL ks k).getD z) := by
  cases e : getL ks k with
  | some d =>
    obtain ⟨v, hv, rv⟩ := h.get e
    rw [hv]
    exact rv
  | none =>
    have := h.isS k
    rw [e] at this
    cases e2 : valV kvs k with
    | none => exact rz
    | some v => rw [e2] at this; cases this
theorem se_dget2 {mo mk mz : Env → M D} {e f : Expr} (hu : X.A.units + 1 < cLine) (ho : SE c X WW o mo) (he : SE c X WW e mk) (hf : SE c X WW f mz) (m : M2 X o "get" apos e f cpos := by exact ⟨rfl, rfl, rfl, rfl⟩) :
    SE c X WW (.Call (.Attribute o "get" apos) [e, f] [] cpos) (fun ρ => bd (mo ρ) fun x => bd (dctV x) fun ks => bd (mk ρ) fun k => bd (mz ρ) fun z => getK ks k z) := by
  refine ⟨ho.k, PE.imp (pe_dget2 hu ho.p he.p hf.p m) fun σ H Q ⟨Ψ, ρ, S, F, so, eo, q⟩ => ⟨Ψ, ρ, S, F, so, eo, (Post.bd q).mono fun x S1 q1 Ψ1 v H1 x1 s1 r1 => ?_⟩⟩
  have q2 := Post.bd q1
  unfold dctV at q2
  cases r1 with
  | dct h1 e1 rr =>
    rename_i a kvs ks
    refine ⟨a, rfl, .inl ⟨kvs, .inl (s1.phi _ _ h1)⟩, Ψ1, ρ, S1, F, s1, eo.ext x1, (Post.ext x1 (Post.bd q2)).mono fun k S2 q3 Ψ2 kv H2 x2 s2 r2 => ?_⟩
    refine ⟨Ψ2, ρ, S2, F, s2, (eo.ext x1).ext x2, (Post.ext (x1.trans x2) (Post.bd q3)).mono fun z S3 q4 Ψ3 zv H3 x3 s3 r3 => ?_⟩
    unfold getK at q4
    cases hk : keyD k with
    | none => rw [hk] at q4; exact q4.elim
    | some kk =>
      rw [hk] at q4
      have ek := keyD_rep r2 hk
      subst ek
      have h3 : H3 a = some (.dK kvs) := s3.phi _ _ ((x2.le.trans x3.le).phi _ _ h1)
      have kr : KReps c Ψ3 kvs ks := KReps.of e1 (rr.mono (x2.le.trans x3.le))
      exact ⟨valV kvs kk, DGet.k h3, q4 Ψ3 _ H3 ((x1.trans x2).trans x3) s3 (kr.getD kk r3)⟩
  | _ => exact q2.elim
end
end Sm

/-! text: Sim72 -/
set_option Elab.async false
set_option linter.all false
set_option maxRecDepth 100000
set_option maxHeartbeats 4000000
namespace Sm
open PySem PySem.Spec PyProof.Rows L2
/-! ### dict(pairs), their keys tuples: a new dict in the store -/
end Sm

/-! text: Sim73 -/
set_option Elab.async false
set_option linter.all false
set_option maxRecDepth 100000
set_option maxHeartbeats 4000000
namespace Sm
open PySem PySem.Spec PyProof.Rows L2
/-! ### x in d.values(), texts: by iteration -/
theorem plain_ci : plainId "proto.contains_iter" = true := by decide +kernel
theorem entry_ci : entryFor table "proto.contains_iter" = some Builtin.«proto.contains_iter» := entryFor_of_fast (by kernel_rfl)
theorem values_no_contains : typeLookup (.type "dict_values") "__contains__" = pure none := am_miss_of_fast (by decide +kernel)
section
variable {prog : Program} {w : World} {K : Type} [DecidableEq K] {knd : KeyKind prog w K} {A : Around} {E : Value → Shared → Prop}
theorem ci_loop {it d : Addr} {ep : Nat} {kvs : List (K × Value)} {y : Str} {t0 : Tok} {R : Result → Shared → Prop} {s0 : Shared} (hdi : d ≠ it) (hh : A.handled = none) (txt : List Str)
    (hz : ∀ (i : Nat) (p : K × Value), kvs[i]? = some p → ∃ t, p.2 = Value.str (txt.getD i "") t) (hl : txt.length = kvs.length)
    (hR : ∀ h', Heap.ExtBut it s0.heap h' → R (.ok (.ret (.bool (txt.any fun z => decide (z = y))))) { s0 with heap := h' }) :
    ∀ (n i : Nat) (h : Heap), kvs.length - i = n → i ≤ kvs.length → h.IsValIter it d i kvs.length ep → h.DictAt knd d kvs ep → Heap.ExtBut it s0.heap h → ((txt.take i).any fun z => decide (z = y)) = false →
      codeAny (model prog w) A (.builtin "proto.contains_iter" ⟨[.ref it, .str y t0], []⟩) R { s0 with heap := h } := by
  intro n
  induction n with
  | zero =>
    intro i h hn hi hit hm he hno
    have hii : i = kvs.length := by omega
    refine codeAny_builtin entry_ci ?_
    rw [Around.under_plainId plain_ci _]
    show wpAny _ A.in1 (pyNext (.ref it) >>= _) _ _ _
    refine wpAny_bind (wpAny_pyNext_values_end (s := { s0 with heap := h }) (knd := knd) hh hit hm (List.getElem?_eq_none (by omega)) fun h' eb => ?_)
    refine wpAny_bind (wpAny_rule ?_)
    have e : (txt.any fun z => decide (z = y)) = false := by rw [← hno, List.take_of_length_le (by omega)]
    have := hR h' (fun b o hb q => eb b o hb (he b o hb q))
    rw [e] at this
    exact wpAny_pure this
  | succ n ih =>
    intro i h hn hi hit hm he hno
    have hlt : i < kvs.length := by omega
    obtain ⟨p, hp⟩ : ∃ p, kvs[i]? = some p := ⟨kvs[i], List.getElem?_eq_getElem hlt⟩
    obtain ⟨t, hpt⟩ := hz i p hp
    refine codeAny_builtin entry_ci ?_
    rw [Around.under_plainId plain_ci _]
    show wpAny _ A.in1 (pyNext (.ref it) >>= _) _ _ _
    refine wpAny_bind (wpAny_pyNext_values_item (s := { s0 with heap := h }) (knd := knd) (k := p.1) (v := p.2) hit hm hp fun h' hit' sb => ?_)
    rw [hpt]
    refine wpAny_bind (wpAny_eqBool_str ?_)
    have he' : Heap.ExtBut it s0.heap h' := fun b o hb q => (sb.2 b hb).trans (he b o hb q)
    have htk : txt[i]? = some (txt.getD i "") := by
      have : i < txt.length := by omega
      rw [List.getElem?_eq_getElem this, List.getD_eq_getElem?_getD, List.getElem?_eq_getElem this]
      rfl
    by_cases e : txt.getD i "" = y
    · rw [decide_eq_true e]
      refine wpAny_bind (wpAny_rule ?_)
      have : (txt.any fun z => decide (z = y)) = true := List.any_eq_true.mpr ⟨_, List.mem_of_getElem? htk, decide_eq_true e⟩
      have r := hR h' he'
      rw [this] at r
      exact wpAny_pure r
    · rw [decide_eq_false e]
      refine wpAny_pure ⟨plainId_quiet plain_ci _, ih (i + 1) h' (by omega) hlt hit' (hm.at fun o q => (sb.2 d hdi).trans q) he' ?_⟩
      rw [List.take_succ, htk, Option.toList_some, List.any_append, hno, List.any_cons, List.any_nil, decide_eq_false e]
      rfl
/-- x not in a view of d's values -/
theorem wpAny_ninV {v d : Addr} {ep : Nat} {kvs : List (K × Value)} {y : Str} {t0 : Tok} {s : Shared} {Q : Value → Shared → Prop} (hh : A.handled = none) (txt : List Str) (hz : ∀ (i : Nat) (p : K × Value), kvs[i]? = some p → ∃ t, p.2 = Value.str (txt.getD i "") t) (hl : txt.length = kvs.length)
    (hv : s.heap.IsValuesView v d) (hm : s.heap.DictAt knd d kvs ep)
    (h : ∀ h', (∀ b o, s.heap.get? b = some o → h'.get? b = some o) → Q (.bool (!(txt.any fun z => decide (z = y)))) { s with heap := h' }) : wpAny (model prog w) A (compareOp .NotIn (.str y t0) (.ref v)) Q E s := by
  show wpAny _ _ (do return .bool (!(← contains (.ref v) (.str y t0)))) Q E s
  refine wpAny_bind ?_
  unfold contains
  refine wpAny_holding ?_
  rw [stdlibNamesSay?_ref]
  refine wpAny_bind (wpAny_specialOf hv.typeIs values_no_contains ?_)
  show wpAny _ _ (if ((none : Option Value) == some Value.none) = true then _ else _) _ E s
  rw [if_neg (by intro z; cases z)]
  refine wpAny_bind (wpAny_callSpecialUnlessNone?_none hv.typeIs values_no_contains ?_)
  refine wpAny_bind (wpAny_rule ?_)
  refine wpAny_bind (wpAny_tryCatch (wpAny_pyIter_values hv hm ?_))
  have hd : d ≠ s.heap.objs.size := fun z => by
    obtain ⟨o, _, ho, _⟩ := hm
    exact absurd (Heap.lt_size ho) (by rw [z]; exact Nat.lt_irrefl _)
  refine wpAny_bind (wpAny_runValue ?_)
  refine ci_loop (s0 := s) (knd := knd) hd hh txt hz hl ?_ kvs.length 0 _ (Nat.sub_zero _) (Nat.zero_le _) ⟨_, Heap.get?_push_size _ rfl, rfl, rfl⟩ (hm.push _) (fun b o hb q => Heap.get?_push_of_some _ q) rfl
  intro h' eb
  exact wpAny_pure (wpAny_pure (h h' fun b o q => eb b o (Nat.ne_of_lt (Heap.lt_size q)) q))
end
end Sm

/-! text: Sim74 -/
set_option Elab.async false
set_option linter.all false
set_option maxRecDepth 100000
set_option maxHeartbeats 4000000
namespace Sm
open PySem PySem.Spec PyProof.Rows L2
/-! ### e not in x.values(), x an own dict whose values are texts -/
def ViewOk (d p : Addr) : Heap → Prop := fun h => h.IsValuesView p d
theorem view_ok {P : Program} {w : World} {H' : Hp} {h' : Heap} {d p : Addr} (h : ViewOk d p h') : ObjOk P w H' h' p (.ext (ViewOk d p)) :=
  ⟨h, let ⟨o, e, _⟩ := h; ⟨o, e⟩, fun h1 h2 q k => let ⟨o, e, r⟩ := q; ⟨o, k o e, r⟩⟩
section
variable {X : Cx} {e : Expr} {td : TE} {apos cpos : Pos}
theorem pe_vals (he : PE X e td) (hbase : attributeBase e "values" X.env (eval e X.env) = eval e X.env := by rfl) (hline : (apos.endLine == cpos.line) = true := by rfl) :
    PE X (.Call (.Attribute e "values" apos) [] [] cpos) (fun σ H Q => td σ H fun x H1 => ∃ d kvs, x = .ref d ∧ H1 d = some (.dK kvs) ∧ ∀ p, H1 p = none → Q (.ref p) (L2.upd H1 p (.ext (ViewOk d p)))) := by
  refine ⟨fun pins s σ H Q I h => ?_⟩
  refine wpAny_Call_method (T := "dict") (id := "dict.values") hbase rfl hline F.plainAttrs_dict F.slot_dict_values F.type_dict_values (thn (he.run pins s σ H _ I h) fun u s1 ⟨x, H1, I1, rx, d, kvs, ex, hd, q⟩ => ?_)
  subst ex
  obtain rfl : u = Value.ref d := rx
  obtain ⟨_, hs, vs, kv, dd⟩ := dk_of I1.hok hd
  refine ⟨dd.typeIs, dd.mapOf.noDict, ?_⟩
  have I2 : Inv X pins σ (L2.upd H1 s1.heap.objs.size (.ext (ViewOk d s1.heap.objs.size))) { s1 with heap := s1.heap.push { cls := .type "dict_values", data := .fields #[.ref d] } } :=
    I1.laid (t' := s1.toks) (fun b ob q => Heap.get?_push_of_some _ q) (Nat.le_refl _) (view_ok ⟨_, Heap.get?_push_size _ rfl, rfl, rfl⟩)
  show wpAny _ _ (callWith cpos (.builtin "dict.values") [.ref d] [] []) _ X.xe s1
  exact method_meetsIn F.slot_dict_values F.entry_dict_values rfl (PySem.evalArgs_none ⟨rfl, dd.typeIs, F.args_dict_values_1 _, _, meets_dict_values (mixKind X.prog X.w) d hs, ⟨vs, dd⟩, ⟨.ref s1.heap.objs.size, _, I2, rfl, q _ (I1.hok.fresh (Nat.le_refl _))⟩⟩)
def rNinV : R2 := fun y x H Q => ∃ (p d : Addr) (kvs : List (Key × V)) (z : Str) (txt : List Str), y = .str z ∧ x = .ref p ∧ H p = some (.ext (ViewOk d p)) ∧ H d = some (.dK kvs) ∧ kvs.map (·.2) = txt.map V.str ∧ Q (.bl (!(txt.any fun t => decide (t = z)))) H
theorem op_ninV (hc : X.calm = true) : OpR X (compareOp .NotIn) rNinV := by
  intro pins s σ H y x u v Q I ry rx ⟨p, d, kvs, z, txt, ey, ex, hp, hd, ht, q⟩
  subst ey ex
  obtain ⟨t0, rfl⟩ := (show ∃ t, u = Value.str z t from ry)
  obtain rfl : v = Value.ref p := rx
  obtain ⟨hv, _⟩ := (show ObjOk X.prog X.w H s.heap p (.ext (ViewOk d p)) from I.hok p _ hp)
  obtain ⟨_, hs, vs, kv, dd⟩ := dk_of I.hok hd
  obtain ⟨o, es, ep, h1, h2, h3, r⟩ := dd
  have hl : kvs.length = vs.length := Paired.length kv
  have hl2 : txt.length = kvs.length := by have := congrArg List.length ht; simpa using this.symm
  refine wpAny_ninV (knd := mixKind X.prog X.w) (I.ok.hd hc) txt (fun i p' hp' => ?_) (by omega) hv ⟨o, es, h1, h2, h3, r⟩ fun h' hk => ⟨.bl (!(txt.any fun t => decide (t = z))), H, I.kept (t' := s.toks) hk, rfl, q⟩
  have hi : i < kvs.length := by have := (List.getElem?_eq_some_iff.mp hp').1; omega
  obtain ⟨q', hq1, hq2⟩ := kv_get kv (k := (kvs[i]).1) (v := (kvs[i]).2) (List.getElem?_eq_getElem hi)
  rw [hq1] at hp'
  cases hp'
  have e1 : (kvs.map (·.2))[i]? = some (kvs[i]).2 := by rw [List.getElem?_map, List.getElem?_eq_getElem hi]; rfl
  rw [ht, List.getElem?_map] at e1
  have hti : i < txt.length := by omega
  rw [List.getElem?_eq_getElem hti] at e1
  have e2 : V.str txt[i] = (kvs[i]).2 := Option.some.inj e1
  rw [← e2] at hq2
  obtain ⟨t, e3⟩ := (show ∃ t, q' = Value.str txt[i] t from hq2)
  refine ⟨t, ?_⟩
  rw [List.getD_eq_getElem?_getD, List.getElem?_eq_getElem hti]
  exact e3
end
def strsK : List (Key × D) → Option (List Str)
  | [] => some []
  | (_, .str z) :: r => (strsK r).map (z :: ·)
  | _ => none
theorem strsK_reps {c : Cf} {Ψ : Wd} {kvs : List (Key × V)} {ks : List (Key × D)} (h : KReps c Ψ kvs ks) : ∀ {txt : List Str}, strsK ks = some txt → kvs.map (·.2) = txt.map V.str := by
  induction h with
  | nil => intro txt e; unfold strsK at e; cases e; rfl
  | @cons k v d kvs ks h t ih =>
    intro txt e
    cases d with
    | str z =>
      unfold strsK at e
      cases e2 : strsK ks with
      | none => rw [e2] at e; cases e
      | some tx =>
        rw [e2] at e
        cases e
        cases h
        rw [List.map_cons, List.map_cons, ih e2]
    | _ => unfold strsK at e; cases e
def ninVM (i : Nat) (m : Env → M D) : Env → M D := fun ρ => bd (m ρ) fun k => bd (dctAt ρ i) fun ks => opt (match k with
  | .str z => (strsK ks).map fun txt => .bl (!(txt.any fun t => decide (t = z)))
  | _ => none)
section
variable {c : Cf} {X : Cx} {WW : L2.St → XK} {pos apos cpos px : Pos} {i : Nat} {x : Str} {e : Expr} {m : Env → M D}
theorem ninV_r (h : SE c X WW e m) (hN : X.N[i]? = some x) {σ : L2.St} {H : Hp} {Q : VK} (q : rE c WW (ninVM i m) σ H Q) :
    tOp rNinV (rE c WW m) (fun σ H Q => tVar i σ H fun x H1 => ∃ d kvs, x = .ref d ∧ H1 d = some (.dK kvs) ∧ ∀ p, H1 p = none → Q (.ref p) (L2.upd H1 p (.ext (ViewOk d p)))) σ H Q := by
  obtain ⟨Ψ, ρ, S, F, so, eo, q⟩ := q
  refine ⟨Ψ, ρ, S, F, so, eo, (Post.bd q).mono fun k S1 q1 Ψ1 kv H1 x1 s1 r1 => ?_⟩
  obtain ⟨ks, a, kvs, hr, hF, h1, h2, kr, q2⟩ := dct_at eo q1
  have h2' : H1 a = some (.dK kvs) := x1.keep _ _ h2 (eo.priv i a (by rw [hF]; simp)).2.1
  refine ⟨.ref a, h1, a, kvs, rfl, h2', fun p hp => ?_⟩
  unfold opt at q2
  cases k with
  | str z =>
    cases r1
    dsimp only at q2
    cases e2 : strsK ks with
    | none => rw [e2] at q2; exact q2.elim
    | some txt =>
      rw [e2] at q2
      have q3 : ∀ Ψ' v H', Ext Ψ H Ψ' H' → StoOk c Ψ' H' S1 → Rep c Ψ' v (.bl (!(txt.any fun t => decide (t = z)))) → Q v H' := q2
      have hne : a ≠ p := fun z => by rw [z, hp] at h2'; cases h2'
      exact ⟨p, a, kvs, z, txt, rfl, rfl, upd_same, by rw [upd_ne hne]; exact h2', strsK_reps kr e2, q3 Ψ1 _ _ (x1.trans (Ext.lay hp)) (s1.lay hp) (.bl _)⟩
  | _ => exact q2.elim
end
end Sm

/-! text: Sim75 -/
set_option Elab.async false
set_option linter.all false
set_option maxRecDepth 100000
set_option maxHeartbeats 4000000
namespace Sm
open PySem PySem.Spec PyProof.Rows L2
/-! ### t < u of two tuples of ints, nested -/
mutual
def ltP : PyData → PyData → Option Bool
  | .int i, .int j => some (decide (i < j))
  | .tuple xs, .tuple ys => ltPs xs ys
  | _, _ => none
def ltPs : List PyData → List PyData → Option Bool
  | [], [] => some false
  | [], _ :: _ => some true
  | _ :: _, [] => some false
  | x :: xs, y :: ys => match ltP x y with
    | some b => (match ltPs xs ys with
      | some c => some (if PyData.eqv x y = true then c else b)
      | none => none)
    | none => none
end
theorem lexAt_shift (e r : Nat → Bool) (z : Bool) : ∀ (n i : Nat), Ob.lexAt e r z (i + 1) n = Ob.lexAt (fun j => e (j + 1)) (fun j => r (j + 1)) z i n
  | 0, i => rfl
  | n + 1, i => by
    rw [Ob.lexAt_succ, Ob.lexAt_succ, lexAt_shift e r z n (i + 1)]
theorem lexAt_ltPs : ∀ (xs ys : List PyData) (b : Bool), ltPs xs ys = some b →
    Ob.lexAt (fun j => PyData.eqv (xs.getD j .none) (ys.getD j .none)) (fun j => (ltP (xs.getD j .none) (ys.getD j .none)).getD false) (decide (xs.length < ys.length)) 0 (min xs.length ys.length) = b
  | [], [], b, h => by unfold ltPs at h; cases h; rfl
  | [], y :: ys, b, h => by unfold ltPs at h; cases h; rfl
  | x :: xs, [], b, h => by unfold ltPs at h; cases h; rfl
  | x :: xs, y :: ys, b, h => by
    unfold ltPs at h
    have e1 : min (x :: xs).length (y :: ys).length = min xs.length ys.length + 1 := by simp only [List.length_cons]; omega
    have e2 : decide ((x :: xs).length < (y :: ys).length) = decide (xs.length < ys.length) := decide_eq_decide.mpr (by simp only [List.length_cons]; omega)
    rw [e1, e2, Ob.lexAt_succ]
    show (if PyData.eqv x y = true then Ob.lexAt _ _ _ (0 + 1) _ else (ltP x y).getD false) = b
    split at h
    · rename_i b1 hb1
      split at h
      · rename_i c1 hc1
        cases h
        by_cases q : PyData.eqv x y = true
        · rw [if_pos q, if_pos q, lexAt_shift]
          exact lexAt_ltPs xs ys c1 hc1
        · rw [if_neg q, if_neg q, hb1]; rfl
      · cases h
    · cases h
theorem ltPs_at : ∀ (xs ys : List PyData) (b : Bool) (j : Nat), ltPs xs ys = some b → j < xs.length → j < ys.length → ∃ c, ltP (xs.getD j .none) (ys.getD j .none) = some c
  | [], _, _, _, _, h, _ => by simp at h
  | _ :: _, [], _, _, _, _, h => by simp at h
  | x :: xs, y :: ys, b, j, h, h1, h2 => by
    unfold ltPs at h
    split at h
    · rename_i b1 hb1
      split at h
      · rename_i c1 hc1
        cases j with
        | zero => exact ⟨b1, hb1⟩
        | succ j => exact ltPs_at xs ys c1 j hc1 (by simpa using h1) (by simpa using h2)
      · cases h
    · cases h
theorem readsAll_get {h : Heap} : ∀ {xs : List PyData} {vs : List Value} {as : List Addr}, PySem.ReadsAll h vs xs as → ∀ {j : Nat} (hj : j < vs.length), ∃ as', PySem.Reads h vs[j] (xs.getD j .none) as'
  | [], _, _, r, j, hj => by cases r; simp at hj
  | x :: xs, _, _, r, j, hj => by
    cases r with
    | cons h1 h2 =>
      cases j with
      | zero => exact ⟨_, h1⟩
      | succ j => exact readsAll_get h2 (j := j) (by simpa using hj)
theorem readsAll_len {h : Heap} : ∀ {xs : List PyData} {vs : List Value} {as : List Addr}, PySem.ReadsAll h vs xs as → vs.length = xs.length
  | [], _, _, r => by cases r; rfl
  | x :: xs, _, _, r => by
    cases r with
    | cons h1 h2 => rw [List.length_cons, List.length_cons, readsAll_len h2]
theorem depth_getD : ∀ (xs : List PyData) (j : Nat), (xs.getD j .none).depth ≤ PyData.depthAll xs
  | [], j => by simp [PyData.depth]
  | x :: xs, 0 => by simp only [List.getD_cons_zero, PyData.depthAll]; exact Nat.le_max_left _ _
  | x :: xs, j + 1 => by
    simp only [List.getD_cons_succ, PyData.depthAll]
    exact Nat.le_trans (depth_getD xs j) (Nat.le_max_right _ _)
theorem plain_getD : ∀ (xs : List PyData) (j : Nat), PyData.plainAll xs = true → (xs.getD j .none).plain = true
  | [], j, _ => by simp [PyData.plain]
  | x :: xs, 0, h => by simp only [PyData.plainAll, Bool.and_eq_true] at h; exact h.1
  | x :: xs, j + 1, h => by simp only [PyData.plainAll, Bool.and_eq_true] at h; exact plain_getD xs j h.2
theorem reads_tup {h : Heap} {u : Value} {xs : List PyData} {as : List Addr} (r : PySem.Reads h u (.tuple xs) as) : ∃ a o vs n, u = .ref a ∧ h.get? a = some o ∧ o.cls = .type "tuple" ∧ o.data = .seq vs n ∧ PySem.ReadsAll h vs.toList xs as := by
  cases r with
  | tuple h1 h2 h3 h4 => exact ⟨_, _, _, _, rfl, h1, h2, h3, h4⟩
/-- the pair that decides can be told -/
theorem rc_ltP : ∀ (n : Nat) (d e : PyData) (b : Bool) (A : Around) (s : Shared) (u v : Value) (as bs : List Addr), d.depth ≤ n → PySem.Reads s.heap u d as → PySem.Reads s.heap v e bs → d.plain = true → e.plain = true → A.units + n + 8 < cLine → ltP d e = some b → Ob.RcOp .Lt A s u v b := by
  intro n
  induction n with
  | zero =>
    intro d e b A s u v as bs hd ru rv pd pe hu h
    cases d <;> cases e <;> simp [ltP] at h
    · cases ru; cases rv
      subst h
      exact Ob.RcOp.lt_int _ _ _ _
    · simp [PyData.depth] at hd
  | succ n ih =>
    intro d e b A s u v as bs hd ru rv pd pe hu h
    cases d <;> cases e <;> simp only [ltP] at h <;> try (cases h; done)
    · cases h
      cases ru; cases rv
      exact Ob.RcOp.lt_int _ _ _ _
    · rename_i xs ys
      obtain ⟨a1, o1, vs1, n1, rfl, h1, h2, h3, h4⟩ := reads_tup ru
      obtain ⟨a2, o2, vs2, n2, rfl, k1, k2, k3, k4⟩ := reads_tup rv
      · · have l1 := readsAll_len h4
          have l2 := readsAll_len k4
          rw [Array.length_toList] at l1 l2
          simp only [PyData.depth] at hd
          have hdx : PyData.depthAll xs ≤ n := by omega
          simp only [PyData.plain] at pd pe
          have R := Ob.RcOp.tuples_lt (A := A) (s := s) (items := vs1) (items2 := vs2) (e := fun j => PyData.eqv (xs.getD j .none) (ys.getD j .none)) (r := fun j => (ltP (xs.getD j .none) (ys.getD j .none)).getD false) ⟨_, h1, h2, _, h3⟩ ⟨_, k1, k2, _, k3⟩ (by omega)
            (fun j a1 a2 => by
              obtain ⟨as1, r1⟩ := readsAll_get h4 (j := j) (by simpa using a1)
              obtain ⟨as2, r2⟩ := readsAll_get k4 (j := j) (by simpa using a2)
              have dj := depth_getD xs j
              exact SeqAt.eqAt_plain _ _ A.in1 s _ _ _ _ (by simpa using r1) (by simpa using r2) (plain_getD xs j pd) (plain_getD ys j pe) (by show A.units + 1 + _ < cLine; omega))
            (fun j a1 a2 _ => by
              obtain ⟨as1, r1⟩ := readsAll_get h4 (j := j) (by simpa using a1)
              obtain ⟨as2, r2⟩ := readsAll_get k4 (j := j) (by simpa using a2)
              have dj := depth_getD xs j
              obtain ⟨c, hc⟩ := ltPs_at xs ys b j h (by omega) (by omega)
              show Ob.RcOp .Lt A.in1 s _ _ ((ltP (xs.getD j .none) (ys.getD j .none)).getD false)
              rw [hc]
              exact ih _ _ c A.in1 s _ _ _ _ (by omega) (by simpa using r1) (by simpa using r2) (plain_getD xs j pd) (plain_getD ys j pe) (by show A.units + 1 + n + 8 < cLine; omega) hc)
          rw [l1, l2, lexAt_ltPs xs ys b h] at R
          exact R
end Sm

/-! text: Sim76 -/
set_option Elab.async false
set_option linter.all false
set_option maxRecDepth 100000
set_option maxHeartbeats 4000000
namespace Sm
open PySem PySem.Spec PyProof.Rows L2
/-! ### t < u of nested data -/
def ltN : D → D → Sto → Option D := fun a b _ => match a.py, b.py with
  | some x, some y => if x.depth ≤ 50 then (match ltP x y with
    | some k => some (.bl k)
    | none => none) else none
  | _, _ => none
def rLtP (K : PySem.W.Frag) : R2 := fun x y H Q => ∃ d e k, Dp K H x d ∧ Dp K H y e ∧ d.plain = true ∧ e.plain = true ∧ d.depth ≤ 50 ∧ ltP d e = some k ∧ Q (.bl k) H
theorem op_ltP {X : Cx} (hu : X.A.units + 64 < cLine) : OpR X (compareOp .Lt) (rLtP X.K) := by
  intro pins s σ H x y v u Q I rx ry h
  obtain ⟨d, e, k, hd, he, sd, se, m, hk, q⟩ := h
  obtain ⟨as, r1⟩ := Dp.reads I d x v hd rx
  obtain ⟨bs, r2⟩ := Dp.reads I e y u he ry
  exact rc_ltP 50 d e k X.A s _ _ as bs m r1 r2 sd se (by omega) hk _ _ _ _ ⟨.bl _, H, I, rfl, q⟩
theorem v2_ltN {c : Cf} : V2 c (rLtP c.K) ltN := by
  intro Ψ H S x y a b d Q s ra rb e q
  unfold ltN at e
  split at e
  · split at e
    · split at e
      · cases e
        rename_i h1 h2 h3 _ _ h4
        exact ⟨_, _, _, ra.dp s h1, rb.dp s h2, D.plain h1, D.plain h2, h3, h4, fin0 s q (.bl _)⟩
      · cases e
    · cases e
  · cases e
section
variable {c : Cf} {X : Cx} {W : L2.St → XK} {a b : Expr} {pos : Pos} {ma mb : Env → M D}
theorem st_ltN (hu : X.A.units + 64 < cLine) (ha : SB c X W a ma) (hb : SB c X W b mb) : ST c X W (.Compare a [.Lt] [b] pos) (fun ρ => boolT (o2 ltN (ma ρ) (mb ρ))) := st_cmp (op_ltP hu) (ha.k ▸ v2_ltN) ha hb
end
end Sm

/-! text: Sim77 -/
set_option Elab.async false
set_option linter.all false
set_option maxRecDepth 100000
set_option maxHeartbeats 4000000
namespace Sm
open PySem PySem.Spec PyProof.Rows L2
/-! ### tests of an own dict -/
section
variable {c : Cf} {X : Cx} {WW : L2.St → XK} {pos apos cpos px : Pos} {i : Nat} {x : Str} {e : Expr} {m : Env → M D}
theorem rE_of_rT {σ : L2.St} {H : Hp} {Q : Bool → Hp → Prop} (q : rT c WW (fun ρ => boolT (m ρ)) σ H Q) : rE c WW m σ H (fun x H' => ∃ k, x = .bl k ∧ Q k H') := by
  obtain ⟨Ψ, ρ, S, F, so, eo, q⟩ := q
  refine ⟨Ψ, ρ, S, F, so, eo, q.bd.mono fun d S1 q1 Ψ1 x H1 e1 so1 r1 => ?_⟩
  unfold asB at q1
  split at q1
  · cases r1
    exact ⟨_, rfl, q1 Ψ1 H1 e1 so1⟩
  · exact q1.elim
theorem st_ninK (h : SE c X WW e m) (hN : X.N[i]? = some x := by rfl) (hv : Vis X.env.scope x := by first | exact Or.inl rfl | exact Or.inr (Or.inl rfl) | exact Or.inr (Or.inr rfl)) (hd : (x == ("__debug__" : Str)) = false := by decide)
    (hcd : (x == ("__classdict__" : Str)) = false := by decide) (hm : behindInMarks .NotIn (.Name x px) = false := by first | rfl | with_unfolding_all rfl) : ST c X WW (.Compare e [.NotIn] [.Name x px] pos) (fun ρ => boolT (inKM true i m ρ)) :=
  ⟨h.k, PT.imp (pt_cmpR op_ninK h.p (pe_var hN hv hd hcd) hm) fun σ H Q q => inK_r h (px := px) hN (rE_of_rT q)⟩
theorem st_ninV (h : SE c X WW e m) (hc : X.calm = true := by rfl) (hN : X.N[i]? = some x := by rfl) (hv : Vis X.env.scope x := by first | exact Or.inl rfl | exact Or.inr (Or.inl rfl) | exact Or.inr (Or.inr rfl)) (hd : (x == ("__debug__" : Str)) = false := by decide)
    (hcd : (x == ("__classdict__" : Str)) = false := by decide) (hbase : attributeBase (.Name x px) "values" X.env (eval (.Name x px) X.env) = eval (.Name x px) X.env := by rfl) (hline : (apos.endLine == cpos.line) = true := by rfl)
    (hm : behindInMarks .NotIn (.Call (.Attribute (.Name x px) "values" apos) [] [] cpos) = false := by first | rfl | with_unfolding_all rfl) : ST c X WW (.Compare e [.NotIn] [.Call (.Attribute (.Name x px) "values" apos) [] [] cpos] pos) (fun ρ => boolT (ninVM i m ρ)) :=
  ⟨h.k, PT.imp (pt_cmpR (op_ninV hc) h.p (pe_vals (pe_var hN hv hd hcd) hbase hline) hm) fun σ H Q q => ninV_r h hN (rE_of_rT q)⟩
end
end Sm

/-! text: Sim78 -/
set_option Elab.async false
set_option linter.all false
set_option maxRecDepth 100000
set_option maxHeartbeats 4000000
namespace Sm
open PySem PySem.Spec PyProof.Rows L2
/-! ### walking over a dict whose keys are nested tuples: it is locked for good -/
section
variable {X : Cx} {e : Expr} {td : TE}
theorem pe_lockX (he : PE X e td) : PE X e (fun σ H Q => td σ H fun x H1 => Q x H1 ∨ ∃ a u, H1 a = some u ∧ Mut (some u) ∧ ∀ od, Q x (L2.upd H1 a (.frz od u))) := by
  refine ⟨fun pins s σ H Q I h => thn (he.run pins s σ H _ I h) fun u s1 ⟨x, H1, I1, rx, q⟩ => ?_⟩
  rcases q with q | ⟨a, w, hw, mu, q⟩
  · exact ⟨x, H1, I1, rx, q⟩
  · obtain ⟨od, I2⟩ := I1.lock hw mu
    exact ⟨x, _, I2, rx, q od⟩
end
abbrev EL := List (NestedKey × Addr × V)
/-- the keys' own tuples -/
def Itx (w : World) (d : Addr) (o : Obj) (es : EL) : It :=
  ⟨fun i H => H d = some (.frz o (.ext (DictEnt w d es))) ∧ i < es.length, fun i H x H' => H' = H ∧ ∃ e, es[i]? = some e ∧ x = .ref e.2.1, fun i H => H d = some (.frz o (.ext (DictEnt w d es))) ∧ es.length ≤ i⟩
/-- the pairs, each a new tuple -/
def Itxi (w : World) (d : Addr) (o : Obj) (es : EL) : It :=
  ⟨fun i H => H d = some (.frz o (.ext (DictEnt w d es))) ∧ i < es.length, fun i H x H' => ∃ T e, es[i]? = some e ∧ x = .ref T ∧ H T = none ∧ H' = L2.upd H T (.tup [.ref e.2.1, e.2.2]), fun i H => H d = some (.frz o (.ext (DictEnt w d es))) ∧ es.length ≤ i⟩
section
variable {X : Cx} {pins : List (Addr × Obj)} {σ : L2.St} {H : Hp} {s : Shared} {d : Addr} {o : Obj} {es : EL}
theorem frzX (I : Inv X pins σ H s) (h : H d = some (.frz o (.ext (DictEnt X.w d es)))) :
    (d == sysModules) = false ∧ s.heap.get? d = some o ∧ o.ExactDict ∧ es.length ≤ LIM ∧ ∃ (ens : Array DictEntry) (ep : Nat), o.data = .dict ens ep ∧ ens.size = es.length ∧
      ∀ (i : Nat) (e : NestedKey × Addr × V), es[i]? = some e → ∃ en : DictEntry, ens[i]? = some en ∧ en.key = .ref e.2.1 ∧ RelV e.2.2 en.val := by
  obtain ⟨hd, ⟨h1, h2, xs, r, o', ens, ep, h3, h4, h5, h6, _⟩, _⟩ := I.hok d _ h
  rw [hd] at h3
  cases h3
  have hl : es.length = xs.length := Paired.length r
  refine ⟨h1, hd, h4, h2, ens, ep, h5, by rw [← Array.length_toList, h6, List.length_map, hl], fun i e he => ?_⟩
  obtain ⟨b, hb, e1, e2, e3⟩ := paired_get r he
  have q : ens.toList[i]? = some (⟨b.1.hash X.w, .ref b.2.1, b.2.2⟩ : DictEntry) := by rw [h6, List.getElem?_map, hb]; rfl
  rw [Array.getElem?_toList] at q
  exact ⟨_, q, by rw [e2], e3⟩
end
section
variable {P : Program} {w : World} {K : PySem.W.Frag} {tg : Expr} {d : Addr} {o : Obj} {ens : Array DictEntry} {ep : Nat}
theorem turn_keysX {es : EL} (it : Addr) (hod : o.data = .dict ens ep) : Turn P w K tg (Itx w d o es) [it] it (fun i h => h.IsKeyIter it d i es.length ep) where
  mem := by simp
  obj := fun i h st b hb => by
    have e : b = it := by simpa using hb
    subst e
    obtain ⟨oi, e, c, dd⟩ := st
    exact ⟨oi, e, fun v z => by rw [dd] at z; cases z⟩
  keep := fun i h h' st k => st.at fun oi e => k it (by simp) oi e
  item := by
    intro X hP hw hK hc i pins s σ H E I hf st hg
    subst hP hw hK
    obtain ⟨hd, hi⟩ := hg
    obtain ⟨f0, f1, f2, f3, f4, f5⟩ := hf it (by simp)
    obtain ⟨hs, hgd, hx, _, es', ep', hdt, hsz, ent⟩ := frzX I hd
    obtain ⟨rfl, rfl⟩ := dict_ep hod hdt
    obtain ⟨e0, he0⟩ : ∃ p, es[i]? = some p := ⟨es[i], List.getElem?_eq_getElem hi⟩
    obtain ⟨en, hen, hkey, _⟩ := ent i e0 he0
    refine next_key_item st hgd hdt hsz hen fun h' st' sb => ?_
    have I1 : Inv X pins σ H { s with heap := h' } := I.turned (t' := s.toks) (fun b ob hb e => (sb.2 b hb).trans e) f0 f1 f3 f4 f5
    obtain ⟨oi, e, c, dd⟩ := id st'
    exact ⟨en.key, rfl, go_of (s := { s with heap := h' }) e c dd (by decide) ⟨.ref e0.2.1, H, I1, hkey, ⟨rfl, e0, he0, rfl⟩, st', fun b hb => (hf b hb).1⟩⟩
  done := by
    intro X hP hw hK hc i pins s σ H E I hf st hg
    subst hP hw hK
    obtain ⟨hd, hi⟩ := hg
    obtain ⟨f0, f1, f2, f3, f4, f5⟩ := hf it (by simp)
    obtain ⟨hs, hgd, hx, _, es', ep', hdt, hsz, ent⟩ := frzX I hd
    obtain ⟨rfl, rfl⟩ := dict_ep hod hdt
    exact next_key_end (I.ok.hd hc) st hgd hdt hsz hi fun h' eb => ⟨rfl, I.turned (t' := s.toks) (fun b ob hb e => eb b ob hb e) f0 f1 f3 f4 f5⟩
  self := fun A i s Q E st h => by
    refine wpAny_pyIter_slot st.typeIs F.slot_dict_keyiterator_iter (wpAny_call_entry F.slot_dict_keyiterator_iter st.typeIs F.entry_dict_keyiterator_iter ?_ (F.args_dict_keyiterator_iter_1 _))
    show wpAny _ _ (ret (.ref it)) _ _ s
    exact wpAny_pure ⟨_, rfl, "dict_keyiterator", _, st.typeIs, F.slot_dict_keyiterator_next.lookup, h⟩
theorem turn_itemsX {es : EL} {elts : List Expr} {kk : Nat} {tpos : Pos} (it : Addr) (hod : o.data = .dict ens ep) :
    Turn P w K (.Tuple elts kk tpos) (Itxi w d o es) [it] it (fun i h => ∃ ok ov, IsItemIter h it d i es.length ep ok ov) where
  mem := by simp
  obj := fun i h st b hb => by
    have e : b = it := by simpa using hb
    subst e
    obtain ⟨ok, ov, e⟩ := st
    exact ⟨_, e, fun v z => nomatch z⟩
  keep := fun i h h' st k => let ⟨ok, ov, e⟩ := st; ⟨ok, ov, k it (by simp) _ e⟩
  item := by
    intro X hP hw hK hc i pins s σ H E I hf st hg
    subst hP hw hK
    obtain ⟨hd, hi⟩ := hg
    obtain ⟨hs, hgd, hx, _, es', ep', hdt, hsz, ent⟩ := frzX I hd
    obtain ⟨rfl, rfl⟩ := dict_ep hod hdt
    obtain ⟨e0, he0⟩ : ∃ p, es[i]? = some p := ⟨es[i], List.getElem?_eq_getElem hi⟩
    obtain ⟨en, hen, hkey, hval⟩ := ent i e0 he0
    obtain ⟨ok, ov, he⟩ := st
    rw [← hsz] at he
    have hlt : it < s.heap.objs.size := Heap.lt_size he
    have hi' : i < es'.size := by rw [hsz]; exact hi
    have hen' : es'[i] = en := by rw [Array.getElem?_eq_getElem hi'] at hen; exact Option.some.inj hen
    refine wpAny_pyNext_items_item_raw he ⟨o, hgd, hx, hdt⟩ hi' fun h' ho hT hz hk => ?_
    rw [hen'] at ho hT
    refine ⟨_, rfl, wpAny_letOwnedTupleGo_items (s := { s with heap := h' }) ho fun h'' he' sb => ?_⟩
    have hT2 : h''.get? s.heap.objs.size = some { cls := .type "tuple", data := .seq #[en.key, en.val] } := (sb.2 _ (Nat.ne_of_gt hlt)).trans hT
    have rk : RelV (.ref e0.2.1) en.key := hkey
    have new : ObjOk X.prog X.w (L2.upd H s.heap.objs.size (.tup [.ref e0.2.1, e0.2.2])) h'' s.heap.objs.size (.tup [.ref e0.2.1, e0.2.2]) :=
      ⟨by show 2 ≤ sizeLine; decide, [en.key, en.val], .cons rk (.cons hval .nil), ⟨_, hT2, rfl, _, rfl⟩⟩
    have I1 : Inv X pins σ (L2.upd H s.heap.objs.size (.tup [.ref e0.2.1, e0.2.2])) { s with heap := h'' } :=
      I.turnedNew (t' := s.toks) (ch := [it]) (fun b ob hb e => (sb.2 b (by simpa using hb)).trans (hk b ob (by simpa using hb) e)) hf (Nat.le_refl _) new
    refine ⟨.ref s.heap.objs.size, _, I1, rfl, ⟨_, e0, he0, rfl, I.hok.fresh (Nat.le_refl _), rfl⟩, ⟨en.key, en.val, ?_⟩, fun b hb => ?_⟩
    · rw [← hsz]; exact he'
    · have e : b = it := by simpa using hb
      rw [e, upd_ne (Nat.ne_of_lt hlt)]
      exact (hf it (by simp)).1
  done := by
    intro X hP hw hK hc i pins s σ H E I hf st hg
    subst hP hw hK
    obtain ⟨hd, hi⟩ := hg
    obtain ⟨f0, f1, f2, f3, f4, f5⟩ := hf it (by simp)
    obtain ⟨hs, hgd, hx, _, es', ep', hdt, hsz, ent⟩ := frzX I hd
    obtain ⟨rfl, rfl⟩ := dict_ep hod hdt
    obtain ⟨ok, ov, he⟩ := st
    rw [← hsz] at he
    exact wpAny_pyNext_items_end_raw (I.ok.hd hc) he ⟨o, hgd, hx, hdt⟩ (by rw [hsz]; exact hi) fun h' eb => ⟨rfl, I.turned (t' := s.toks) (fun b ob hb e => eb b ob hb e) f0 f1 f3 f4 f5⟩
  self := fun A i s Q E st h => let ⟨_, _, e⟩ := st; PySem.W.kcp_self e h
end
def iKeysX (w : World) (td : TE) : TI := fun σ H R => td σ H fun x H1 => ∃ d o es, x = .ref d ∧ H1 d = some (.frz o (.ext (DictEnt w d es))) ∧ R (Itx w d o es) H1
def iItemsX (w : World) (td : TE) : TI := fun σ H R => td σ H fun x H1 => ∃ d o es, x = .ref d ∧ H1 d = some (.frz o (.ext (DictEnt w d es))) ∧ R (Itxi w d o es) H1
section
variable {X : Cx} {tg e : Expr} {td : TE} {apos cpos : Pos}
theorem pi_keysX (he : PE X e td) : PI X tg e (iKeysX X.w td) := by
  refine ⟨fun pins s σ H R I h => ?_⟩
  refine thn (he.run pins s σ H _ I h) fun u s1 ⟨x, H1, I1, rx, d, o, es, ex, hd, q⟩ => ?_
  subst ex
  obtain rfl : u = Value.ref d := rx
  obtain ⟨hs, hgd, hx, _, ens, ep, hdt, hsz, ent⟩ := frzX I1 hd
  refine iter_keys hs hgd hx hdt (pi_one (tk := s1.toks) I1 _ (turn_keysX _ hdt) ⟨_, Heap.get?_push_size _ rfl, rfl, ?_⟩ q)
  rw [hsz] <;> rfl
theorem pi_itemsX {elts : List Expr} {kk : Nat} {tpos : Pos} (he : PE X e td) (hbase : attributeBase e "items" X.env (eval e X.env) = eval e X.env := by rfl) (hline : (apos.endLine == cpos.line) = true := by rfl) :
    PI X (.Tuple elts kk tpos) (.Call (.Attribute e "items" apos) [] [] cpos) (iItemsX X.w td) := by
  refine ⟨fun pins s σ H R I h => ?_⟩
  refine wpAny_Call_method (T := "dict") (id := "dict.items") hbase rfl hline F.plainAttrs_dict F.slot_dict_items F.type_dict_items (thn (he.run pins s σ H _ I h) fun u s1 ⟨x, H1, I1, rx, d, o, es, ex, hd, q⟩ => ?_)
  subst ex
  obtain rfl : u = Value.ref d := rx
  obtain ⟨hs, hgd, hx, _, ens, ep, hdt, hsz, ent⟩ := frzX I1 hd
  have raw : s1.heap.DictRaw d ens ep := ⟨o, hgd, hx, hdt⟩
  refine ⟨raw.typeIs, (fun b e => by cases e; exact ⟨o, hgd, hx.2.1⟩), ?_⟩
  have I2 : Inv X pins σ H1 { s1 with heap := s1.heap.push { cls := .type "dict_items", data := .fields #[.ref d] } } := I1.kept (t' := s1.toks) fun b ob q => Heap.get?_push_of_some _ q
  have fin : wpAny (model X.prog X.w) X.A (pyIter (.ref s1.heap.objs.size)) (PIE X pins σ (.Tuple elts kk tpos) R) X.xe { s1 with heap := s1.heap.push { cls := .type "dict_items", data := .fields #[.ref d] } } := by
    refine wpAny_pyIter_items_raw (d := d) (es := ens) (ep := ep) ⟨_, Heap.get?_push_size _ rfl, rfl, rfl⟩ (raw.at fun ob q => Heap.get?_push_of_some _ q) (pi_one (tk := s1.toks) I2 _ (turn_itemsX _ hdt) ⟨.none, .none, ?_⟩ q)
    rw [← hsz]
    exact Heap.get?_push_size _ rfl
  show wpAny _ _ (callWith cpos (.builtin "dict.items") [.ref d] [] []) _ X.xe s1
  exact method_meetsIn F.slot_dict_items F.entry_dict_items rfl (PySem.evalArgs_none ⟨rfl, raw.typeIs, F.args_dict_items_1 _, _, meets_dict_items_raw d hs, ⟨ens, ep, raw⟩, fin⟩)
end
/-! ### the mirrors -/
def lockM (d : D) : M D := fun S => match d with
  | .ref n => (match S[n]? with
    | some (.dct ks) => .ok (.ref n) (S.set n (.dctF ks))
    | some (.dctF ks) => .ok (.ref n) S
    | _ => .stuck)
  | _ => .stuck
def keysF (d : D) : M (List D) := fun S => match d with
  | .ref n => (match S[n]? with
    | some (.dctF ks) => if ks.length ≤ LIM then .ok (ks.map (·.1)) S else .stuck
    | _ => .stuck)
  | _ => .stuck
def itemsF (d : D) : M (List D) := fun S => match d with
  | .ref n => (match S[n]? with
    | some (.dctF ks) => if ks.length ≤ LIM then .ok (ks.map fun p => .tup [p.1, p.2]) S else .stuck
    | _ => .stuck)
  | _ => .stuck
theorem Ext.lockX {Ψ : Wd} {H : Hp} {n : Nat} {p : Addr × Addr} {o : HO} (h : Ψ.sh[n]? = some p) (hz : Ψ.fz p.1 = none) (hp : H p.1 ≠ none) : Ext Ψ H (Ψ.know p.1 o) (L2.upd H p.1 o) where
  le := Le.know hz
  dom := fun b hb => by
    by_cases e : b = p.1
    · subst e; rw [upd_same] at hb; cases hb
    · rw [upd_ne e] at hb; exact hb
  nphi := fun a u e => by
    by_cases z : a = p.1
    · subst z; exact .inr (.inr (.inl ⟨n, p, h, .inl rfl⟩))
    · have e' : L2.upd Ψ.fz p.1 o a = some u := e
      rw [upd_ne z] at e'
      exact .inl e'
  nmu := fun _ h => .inl h
  keep := fun b u hu f => by
    rw [upd_ne (fun e => f (.inl ⟨n, p, h, .inl e⟩))]
    exact hu
theorem StoOk.lockX {c : Cf} {Ψ : Wd} {H : Hp} {S : Sto} {n : Nat} {ks : List (D × D)} {p : Addr × Addr} {es : EL} {od : Obj} (s : StoOk c Ψ H S) (h : Ψ.sh[n]? = some p) (hs : S[n]? = some (.dct ks)) (hpp : p.2 = p.1) (r : EReps c Ψ es ks) :
    StoOk c (Ψ.know p.1 (.frz od (.ext (DictEnt c.w p.1 es)))) (L2.upd H p.1 (.frz od (.ext (DictEnt c.w p.1 es)))) (S.set n (.dctF ks)) := by
  have hz := (s.off n p _ h hs rfl).1
  have lk : Le Ψ (Ψ.know p.1 (.frz od (.ext (DictEnt c.w p.1 es)))) := Le.know hz
  refine ⟨fun b u e => ?_, fun i q o h1 h2 h3 => ?_, fun t ht => ?_, s.nd, by rw [List.length_set]; exact s.len, s.tbc, fun t ht => ?_, s.tnd, fun i o e => ?_⟩
  · by_cases q : b = p.1
    · subst q
      have e' : L2.upd Ψ.fz p.1 _ p.1 = some u := e
      rw [upd_same] at e' ⊢
      exact e'
    · have e' : L2.upd Ψ.fz p.1 _ b = some u := e
      rw [upd_ne q] at e' ⊢
      exact s.phi b u e'
  · by_cases z : i = n
    · subst z
      have hl : i < S.length := (List.getElem?_eq_some_iff.mp hs).1
      rw [List.getElem?_set_self hl] at h2
      cases h2
      cases h3
    · rw [List.getElem?_set_ne (Ne.symm z)] at h2
      obtain ⟨g1, g2⟩ := s.off i q o h1 h2 h3
      obtain ⟨n1, n2, n3, n4⟩ := s.nd i n q p h1 h z
      exact ⟨by show L2.upd Ψ.fz p.1 _ q.1 = none; rw [upd_ne n1]; exact g1, by show L2.upd Ψ.fz p.1 _ q.2 = none; rw [upd_ne n3]; exact g2⟩
  · show L2.upd Ψ.fz p.1 _ t.1 = none
    rw [upd_ne (s.tnd t ht n p h).1.symm]
    exact s.offT t ht
  · obtain ⟨ps, h1, h2, h3⟩ := s.tab t ht
    exact ⟨ps, by rw [upd_ne (s.tnd t ht n p h).1.symm]; exact h1, h2, fun pos cv hc => let ⟨a, e1, e2⟩ := h3 pos cv hc; ⟨a, e1, lk.phi _ _ e2⟩⟩
  · by_cases z : i = n
    · subst z
      have hl : i < S.length := (List.getElem?_eq_some_iff.mp hs).1
      rw [List.getElem?_set_self hl] at e
      cases e
      exact ⟨p, h, od, es, (show L2.upd Ψ.fz p.1 _ p.1 = _ from upd_same), hpp, r.mono lk⟩
    · rw [List.getElem?_set_ne (Ne.symm z)] at e
      obtain ⟨q, h1, h2⟩ := s.obj i o e
      obtain ⟨n1, n2, n3, n4⟩ := s.nd i n q p h1 h z
      refine ⟨q, h1, ?_⟩
      cases o with
      | lst ds => obtain ⟨vs, x1, x2, x3, x4⟩ := h2; exact ⟨vs, by rw [upd_ne n1]; exact x1, x2, x3, x4.mono lk⟩
      | dct ks => obtain ⟨es, x1, x2, x4⟩ := h2; exact ⟨es, by rw [upd_ne n1]; exact x1, x2, x4.mono lk⟩
      | dctF ks => obtain ⟨od', es', x1, x2, x4⟩ := h2; exact ⟨od', es', lk.phi _ _ x1, x2, x4.mono lk⟩
      | ins k fs =>
        obtain ⟨vs, x1, x2, x3, x4⟩ := h2
        refine ⟨vs, Slt.keep x1 fun b hb u hu => ?_, x2, by rw [upd_ne n3]; exact x3, x4.mono lk⟩
        rcases hb with rfl | rfl
        · rw [upd_ne n1]; exact hu
        · rw [upd_ne n3]; exact hu
theorem EReps.at {c : Cf} {Ψ : Wd} {es : EL} {ks : List (D × D)} (h : EReps c Ψ es ks) : ∀ {i : Nat} {e : NestedKey × Addr × V} {p : D × D}, es[i]? = some e → ks[i]? = some p → Rep c Ψ (.ref e.2.1) p.1 ∧ Rep c Ψ e.2.2 p.2 := by
  induction h with
  | nil => intro i e p h1 _; simp at h1
  | @cons e p es ks h t ih =>
    intro i e' p' h1 h2
    cases i with
    | zero => simp at h1 h2; subst h1 h2; exact ⟨h.1, h.2.2.2⟩
    | succ i => exact ih (by simpa using h1) (by simpa using h2)
section
variable {c : Cf} {X : Cx} {W : L2.St → XK} {e tg : Expr} {m : Env → M D}
theorem se_lockM (hw : X.w = c.w) (h : SE c X W e m) : SE c X W e (fun ρ => bd (m ρ) lockM) := by
  refine ⟨h.k, PE.imp (pe_lockX h.p) fun σ H Q ⟨Ψ, ρ, S, F, so, eo, q⟩ => ⟨Ψ, ρ, S, F, so, eo, (Post.bd q).mono fun d S1 q1 Ψ1 v H1 x1 s1 r1 => ?_⟩⟩
  unfold lockM at q1
  split at q1
  · rename_i n
    split at q1
    · rename_i ks hks
      have q2 : ∀ Ψ' v H', Ext Ψ H Ψ' H' → StoOk c Ψ' H' (S1.set n (.dctF ks)) → Rep c Ψ' v (.ref n) → Q v H' := q1
      obtain ⟨p, es, hp, hpp, rfl, he, er⟩ := dct_repO s1 (.inl r1) hks
      have hz := (s1.off n p _ hp hks rfl).1
      exact .inr ⟨p.1, _, he, True.intro, fun od => q2 _ _ _ (x1.trans (Ext.lockX hp hz (by rw [he]; exact fun z => nomatch z))) (s1.lockX hp hks hpp er) (r1.mono (Le.know hz))⟩
    · rename_i ks hks
      have q2 : ∀ Ψ' v H', Ext Ψ H Ψ' H' → StoOk c Ψ' H' S1 → Rep c Ψ' v (.ref n) → Q v H' := q1
      exact .inl (q2 Ψ1 v H1 x1 s1 r1)
    · exact q1.elim
  · exact q1.elim
theorem si_keysX (hw : X.w = c.w) (h : SE c X W e m) : SI c X W tg e (fun ρ => bd (bd (m ρ) lockM) keysF) := by
  have hl := se_lockM hw h
  refine ⟨h.k, PI.imp (pi_keysX (tg := tg) hl.p) fun σ H R ⟨Ψ, ρ, S, F, so, eo, q⟩ => ⟨Ψ, ρ, S, F, so, eo, (Post.bd q).mono fun d S1 q1 Ψ1 v H1 x1 s1 r1 => ?_⟩⟩
  unfold keysF at q1
  split at q1
  · rename_i n
    split at q1
    · rename_i ks hks
      split at q1
      · rename_i hlim
        have q2 : ∀ Ψ' J H', Ext Ψ H Ψ' H' → StoOk c Ψ' H' S1 → ItOk c (fun Ψ2 _ => Le Ψ' Ψ2) J (ks.map (·.1)) → R J H' := q1
        obtain ⟨p, h1, rfl, od, es, a, b, er⟩ := RepH.ref s1 hks (.inl r1)
        rw [hw]
        refine ⟨p.1, od, es, rfl, s1.phi _ _ a, q2 Ψ1 _ H1 x1 s1 ?_⟩
        have hlen := er.len
        refine ⟨by rw [List.length_map]; exact hlim, fun H => H p.1 = some (.frz od (.ext (DictEnt c.w p.1 es))), fun i H x H' => H' = H ∧ ∃ e, es[i]? = some e ∧ x = .ref e.2.1, ?_, fun Ψ2 S2 H2 l s => s.phi _ _ (l.phi _ _ a), fun i H2 x H3 Ψ2 S2 d l s hd y => ?_⟩
        · rw [List.length_map, ← hlen]
          exact ⟨fun i H hi g => ⟨g, hi⟩, fun H g => ⟨g, Nat.le_refl _⟩, fun i H x H' _ _ y => y⟩
        · obtain ⟨rfl, e0, he0, rfl⟩ := y
          rw [List.getElem?_map] at hd
          obtain ⟨p0, hp0, rfl⟩ := Option.map_eq_some_iff.mp hd
          exact ⟨Ψ2, Ext.refl _ _, s, ((er.mono l).at he0 hp0).1⟩
      · exact q1.elim
    · exact q1.elim
  · exact q1.elim
theorem si_itemsX {elts : List Expr} {kk : Nat} {tpos apos cpos : Pos} (hw : X.w = c.w) (h : SE c X W e m) (hbase : attributeBase e "items" X.env (eval e X.env) = eval e X.env := by rfl) (hline : (apos.endLine == cpos.line) = true := by rfl) : SI c X W (.Tuple elts kk tpos) (.Call (.Attribute e "items" apos) [] [] cpos) (fun ρ => bd (bd (m ρ) lockM) itemsF) := by
  have hl := se_lockM hw h
  refine ⟨h.k, PI.imp (pi_itemsX hl.p hbase hline) fun σ H R ⟨Ψ, ρ, S, F, so, eo, q⟩ => ⟨Ψ, ρ, S, F, so, eo, (Post.bd q).mono fun d S1 q1 Ψ1 v H1 x1 s1 r1 => ?_⟩⟩
  unfold itemsF at q1
  split at q1
  · rename_i n
    split at q1
    · rename_i ks hks
      split at q1
      · rename_i hlim
        have q2 : ∀ Ψ' J H', Ext Ψ H Ψ' H' → StoOk c Ψ' H' S1 → ItOk c (fun Ψ2 _ => Le Ψ' Ψ2) J (ks.map fun p => D.tup [p.1, p.2]) → R J H' := q1
        obtain ⟨p, h1, rfl, od, es, a, b, er⟩ := RepH.ref s1 hks (.inl r1)
        rw [hw]
        refine ⟨p.1, od, es, rfl, s1.phi _ _ a, q2 Ψ1 _ H1 x1 s1 ?_⟩
        have hlen := er.len
        refine ⟨by rw [List.length_map]; exact hlim, fun H => H p.1 = some (.frz od (.ext (DictEnt c.w p.1 es))), fun i H x H' => ∃ T e, es[i]? = some e ∧ x = .ref T ∧ H T = none ∧ H' = L2.upd H T (.tup [.ref e.2.1, e.2.2]), ?_, fun Ψ2 S2 H2 l s => s.phi _ _ (l.phi _ _ a), fun i H2 x H3 Ψ2 S2 d l s hd y => ?_⟩
        · rw [List.length_map, ← hlen]
          exact ⟨fun i H hi g => ⟨g, hi⟩, fun H g => ⟨g, Nat.le_refl _⟩, fun i H x H' _ _ y => y⟩
        · obtain ⟨T, e0, he0, rfl, hT, rfl⟩ := y
          rw [List.getElem?_map] at hd
          obtain ⟨p0, hp0, rfl⟩ := Option.map_eq_some_iff.mp hd
          obtain ⟨ra, rb⟩ := (er.mono l).at he0 hp0
          exact pair_new s hT ra rb
      · exact q1.elim
    · exact q1.elim
  · exact q1.elim
end
end Sm

/-! text: Sim79 -/
set_option Elab.async false
set_option linter.all false
set_option maxRecDepth 100000
set_option maxHeartbeats 4000000
namespace Sm
open PySem PySem.Spec PyProof.Rows L2
/-! ### name = {k: v for ..} on one line, the name a local -/
section
variable {X : Cx}
end
section
variable {c : Cf} {X : Cx} {W : XK} {mi : Env → M (List D)} {mt : Env → M Bool} {mk mv : Env → M D} {t : Tg} {kx vx tg iter : Expr} {ifs : List Expr} {scope : Scope} {own : List (Str × Nat)} {pos py spos : Pos} {i : Nat} {y : Str}
end
end Sm

/-! text: Sim82 -/
set_option Elab.async false
set_option linter.all false
set_option maxRecDepth 100000
set_option maxHeartbeats 4000000
namespace Sm
open PySem PySem.Spec PyProof.Rows L2
/-! ### dicts by ints and texts: made within a parallel assignment, locked for good when they are handed out -/
section
variable {c : Cf} {X : Cx} {W : L2.St → XK} {es : List Expr}
end
section
variable {X : Cx} {st : Stmt} {t : TS}
end
section
variable {c : Cf} {X : Cx} {W : XK}
end
/-! ### what is asked of such a dict -/
theorem KReps.at {c : Cf} {Ψ : Wd} {kvs : List (Key × V)} {ks : List (Key × D)} (h : KReps c Ψ kvs ks) : ∀ {i : Nat} {p : Key × V} {q : Key × D}, kvs[i]? = some p → ks[i]? = some q → p.1 = q.1 ∧ Rep c Ψ p.2 q.2 := by
  induction h with
  | nil => intro i p q h1 _; simp at h1
  | cons h t ih =>
    intro i p q h1 h2
    cases i with
    | zero => simp at h1 h2; subst h1 h2; exact ⟨rfl, h⟩
    | succ i => exact ih (by simpa using h1) (by simpa using h2)
theorem KReps.len {c : Cf} {Ψ : Wd} {kvs : List (Key × V)} {ks : List (Key × D)} (h : KReps c Ψ kvs ks) : kvs.length = ks.length := by
  induction h with
  | nil => rfl
  | cons h t ih => rw [List.length_cons, List.length_cons, ih]
section
variable {X : Cx} {pins : List (Addr × Obj)} {σ : L2.St} {H : Hp} {s : Shared} {a : Addr} {kvs : List (Key × V)} {A : Around} {E : Value → Shared → Prop}
end
section
variable {X : Cx} {o e f : Expr} {apos cpos : Pos} {td ty tx : TE}
end
section
variable {c : Cf} {X : Cx} {WW : L2.St → XK} {o e tg : Expr} {pos apos cpos : Pos} {mo m mk mz : Env → M D}
end
/-! ### for x in a text -/
section
variable {c : Cf} {X : Cx} {WW : L2.St → XK} {e tg : Expr} {m : Env → M D}
end
/-! ### a op d by a's own method, d such a dict -/
section
variable {c : Cf} {X : Cx} {E : XK} {a b : Expr} {ma mb : Env → M D} {g : Addr} {n k : Nat} {m : List D → M D} {pos : Pos}
end
end Sm

/-! text: Sim84 -/
set_option Elab.async false
set_option linter.all false
set_option maxRecDepth 100000
set_option maxHeartbeats 4000000
namespace Sm
open PySem PySem.Spec PyProof.Rows L2
/-! ### d != e, both empty dicts of the store -/
theorem ent_nil {X : Cx} {pins : List (Addr × Obj)} {σ : L2.St} {H : Hp} {s : Shared} (I : Inv X pins σ H s) {a : Addr} (h : Rd H a (.ext (DictEnt X.w a []))) : (a == sysModules) = false ∧ s.heap.DictOf (mixKind X.prog X.w) a [] := by
  obtain ⟨h1, _, xs, r, o, ens, ep, h3, h4, h5, h6, h7⟩ := ent_of I h (fun e he => by cases he)
  cases r
  have h6' : ens.toList = [] := h6
  refine ⟨h1, o, ens, ep, h3, h4, h5, fun e he => ?_, ?_, List.nodup_nil⟩
  · have h := Array.mem_toList_iff.mpr he
    rw [h6'] at h
    cases h
  · rw [h6']
    exact .nil
def rNeT (w : World) : R2 := fun x y H Q => ∃ a b, x = .ref a ∧ y = .ref b ∧ Rd H a (.ext (DictEnt w a [])) ∧ Rd H b (.ext (DictEnt w b [])) ∧ Q (.bl false) H
theorem op_neT {X : Cx} (hu : X.A.units + 64 < cLine) : OpR X (compareOp .NotEq) (rNeT X.w) := by
  intro pins s σ H x y v u Q I rx ry h
  obtain ⟨a, b, rfl, rfl, ha, hb, q⟩ := h
  cases (show v = Value.ref a from rx)
  cases (show u = Value.ref b from ry)
  obtain ⟨a1, a2⟩ := ent_nil I ha
  obtain ⟨b1, b2⟩ := ent_nil I hb
  refine PySem.W.keq_ne (r := true) a1 b1 a2 b2 (by omega) (fun _ => .nil) ⟨.bl _, H, I, rfl, ?_⟩
  exact q
def neT0 : D → D → Sto → Option D := fun x y S => match dctS x S, dctS y S with
  | some [], some [] => some (.bl false)
  | _, _ => none
section
variable {c : Cf} {X : Cx} {W : L2.St → XK} {a b : Expr} {ma mb : Env → M D} {pos : Pos}
theorem v2_neT : V2 c (rNeT c.w) neT0 := by
  intro Ψ H S x y a b d Q s ra rb e q
  unfold neT0 at e
  split at e
  · rename_i h1 h2
    cases e
    obtain ⟨n, p, es, rfl, hp, hpp, rfl, hd, er⟩ := dct_rep s ra h1
    obtain ⟨n2, p2, es2, rfl, hp2, hpp2, rfl, hd2, er2⟩ := dct_rep s rb h2
    cases er
    cases er2
    exact ⟨p.1, p2.1, rfl, rfl, hd, hd2, q Ψ _ H (Ext.refl _ _) s (.bl _)⟩
  · cases e
theorem st_neT (hw : X.w = c.w) (hu : X.A.units + 64 < cLine) (ha : SB c X W a ma) (hb : SB c X W b mb) : ST c X W (.Compare a [.NotEq] [b] pos) (fun ρ => boolT (o2 neT0 (ma ρ) (mb ρ))) := st_cmp (op_neT hu) (by rw [hw]; exact v2_neT) ha hb
end
end Sm

/-! text: Q1 -/
set_option Elab.async false
set_option linter.all false
set_option maxRecDepth 100000
set_option maxHeartbeats 1000000
/-! P1 -/
namespace Sm
open PySem PySem.Spec L2
/-! ### how the mirrors are worked out -/
@[simp] theorem e_bd {α β : Type} (m : M α) (f : α → M β) (S : Sto) : bd m f S = match m S with
  | .ok a S' => f a S'
  | .err k fs S' => .err k fs S'
  | .stuck => .stuck := rfl
@[simp] theorem e_rt {α : Type} (a : α) (S : Sto) : rt a S = .ok a S := rfl
@[simp] theorem e_stk {α : Type} (S : Sto) : (stk : M α) S = .stuck := rfl
theorem e_callM {n : Nat} {m : List D → M D} {ds : List D} (h : ds.length = n) (S : Sto) : callM n m ds S = m ds S := by
  unfold callM
  split
  · rfl
  · rename_i h2 _; exact absurd h h2
@[simp] theorem e_call0 (m : List D → M D) (S : Sto) : callM 0 m [] S = m [] S := e_callM (ds := []) rfl S
@[simp] theorem e_call1 (m : List D → M D) (a : D) (S : Sto) : callM 1 m [a] S = m [a] S := e_callM (ds := [a]) rfl S
@[simp] theorem e_call2 (m : List D → M D) (a b : D) (S : Sto) : callM 2 m [a, b] S = m [a, b] S := e_callM (ds := [a, b]) rfl S
@[simp] theorem e_call3 (m : List D → M D) (a b c : D) (S : Sto) : callM 3 m [a, b, c] S = m [a, b, c] S := e_callM (ds := [a, b, c]) rfl S
@[simp] theorem e_call4 (m : List D → M D) (a b c d : D) (S : Sto) : callM 4 m [a, b, c, d] S = m [a, b, c, d] S := e_callM (ds := [a, b, c, d]) rfl S
@[simp] theorem e_call5 (m : List D → M D) (a b c d e : D) (S : Sto) : callM 5 m [a, b, c, d, e] S = m [a, b, c, d, e] S := e_callM (ds := [a, b, c, d, e]) rfl S
@[simp] theorem e_call6 (m : List D → M D) (a b c d e f : D) (S : Sto) : callM 6 m [a, b, c, d, e, f] S = m [a, b, c, d, e, f] S := e_callM (ds := [a, b, c, d, e, f]) rfl S
@[simp] theorem e_seqS (a b : Env → M Out) (ρ : Env) (S : Sto) : seqS a b ρ S = match a ρ S with
  | .ok (.nx ρ') S' => b ρ' S'
  | .ok o S' => .ok o S'
  | .err k fs S' => .err k fs S'
  | .stuck => .stuck := by
  show bd (a ρ) _ S = _
  rw [e_bd]
  cases a ρ S with
  | ok o S' => cases o <;> rfl
  | err k fs S' => rfl
  | stuck => rfl
@[simp] theorem e_nextS (ρ : Env) (S : Sto) : nextS ρ S = .ok (.nx ρ) S := rfl
@[simp] theorem e_boolT (m : M D) (S : Sto) : boolT m S = match m S with
  | .ok a S' => asB a S'
  | .err k fs S' => .err k fs S'
  | .stuck => .stuck := by
  show bd m asB S = _
  rw [e_bd]
  cases m S <;> rfl
@[simp] theorem e_asB (b : Bool) (S : Sto) : asB (.bl b) S = .ok b S := rfl
@[simp] theorem e_asI (i : Int) (S : Sto) : asI (.int i) S = .ok (some i) S := rfl
@[simp] theorem e_o2 (f : D → D → Sto → Option D) (a b : M D) (S : Sto) : o2 f a b S = match a S with
  | .ok x S1 => (match b S1 with
    | .ok y S2 => op2 f x y S2
    | .err k fs S' => .err k fs S'
    | .stuck => .stuck)
  | .err k fs S' => .err k fs S'
  | .stuck => .stuck := by
  show bd a (fun x => bd b fun y => op2 f x y) S = _
  rw [e_bd]
  cases a S with
  | ok x S1 =>
    show bd b (fun y => op2 f x y) S1 = (match b S1 with
      | .ok y S2 => op2 f x y S2
      | .err k fs S' => .err k fs S'
      | .stuck => .stuck)
    rw [e_bd]
    cases b S1 <;> rfl
  | err k fs S' => rfl
  | stuck => rfl
@[simp] theorem e_op2 (f : D → D → Sto → Option D) (x y : D) (S : Sto) : op2 f x y S = match f x y S with
  | some d => .ok d S
  | none => .stuck := rfl
@[simp] theorem e_iteM {α : Type} (b : Bool) (x y : M α) (S : Sto) : iteM b x y S = if b = true then x S else y S := by cases b <;> rfl
@[simp] theorem e_vl (ρ : Env) (i : Nat) (S : Sto) : vl ρ i S = match ρ[i]? with
  | some (.val d) => .ok d S
  | _ => .stuck := rfl
@[simp] theorem e_vb (ρ : Env) (i : Nat) (S : Sto) : vb ρ i S = match ρ[i]? with
  | some (.val d) => .ok d S
  | some (.own ds) => .ok (.lst ds) S
  | _ => .stuck := rfl
@[simp] theorem e_consM {α : Type} (m : M α) (ms : M (List α)) (S : Sto) : consM m ms S = match m S with
  | .ok x S1 => (match ms S1 with
    | .ok xs S2 => .ok (x :: xs) S2
    | .err k fs S' => .err k fs S'
    | .stuck => .stuck)
  | .err k fs S' => .err k fs S'
  | .stuck => .stuck := by
  show bd m (fun x => bd ms fun xs => rt (x :: xs)) S = _
  rw [e_bd]
  cases m S with
  | ok x S1 =>
    show bd ms (fun xs => rt (x :: xs)) S1 = (match ms S1 with
      | .ok xs S2 => .ok (x :: xs) S2
      | .err k fs S' => .err k fs S'
      | .stuck => .stuck)
    rw [e_bd]
    cases ms S1 <;> rfl
  | err k fs S' => rfl
  | stuck => rfl
@[simp] theorem e_c1 (f : List D → Sto → Option D) (m : M (List D)) (S : Sto) : c1 f m S = match m S with
  | .ok ds S1 => (match f ds S1 with
    | some d => .ok d S1
    | none => .stuck)
  | .err k fs S' => .err k fs S'
  | .stuck => .stuck := by
  unfold c1 bd
  cases m S with
  | ok ds S1 =>
    show opC f ds S1 = (match f ds S1 with
      | some d => .ok d S1
      | none => .stuck)
    unfold opC
    cases f ds S1 <;> rfl
  | err k fs S' => rfl
  | stuck => rfl
@[simp] theorem e_setV (i : Nat) (m : Env → M D) (ρ : Env) (S : Sto) : setV i m ρ S = match m ρ S with
  | .ok d S' => .ok (.nx (ρ.set i (.val d))) S'
  | .err k fs S' => .err k fs S'
  | .stuck => .stuck := by
  unfold setV bd
  cases m ρ S <;> rfl
@[simp] theorem e_setN (i : Nat) (m : Env → M (List D)) (ρ : Env) (S : Sto) : setN i m ρ S = match m ρ S with
  | .ok d S' => .ok (.nx (ρ.set i (.own d))) S'
  | .err k fs S' => .err k fs S'
  | .stuck => .stuck := by
  unfold setN bd
  cases m ρ S <;> rfl
@[simp] theorem e_fnM (n : Nat) (mb : Env → M Out) (ds : List D) (S : Sto) : fnM n mb ds S = match mb (ds.map Slot.val ++ List.replicate (n - ds.length) .no) S with
  | .ok (.nx _) S' => .ok .non S'
  | .ok (.ret d) S' => .ok d S'
  | .ok _ _ => .stuck
  | .err k fs S' => .err k fs S'
  | .stuck => .stuck := by
  show bd (mb _) outM S = _
  rw [e_bd]
  cases mb (ds.map Slot.val ++ List.replicate (n - ds.length) .no) S with
  | ok o S' => cases o <;> rfl
  | err k fs S' => rfl
  | stuck => rfl
/-! ints -/
@[simp] theorem e_lt (i j : Int) (S : Sto) : ltI (.int i) (.int j) S = some (.bl (decide (i < j))) := rfl
@[simp] theorem e_le (i j : Int) (S : Sto) : leI (.int i) (.int j) S = some (.bl (decide (i ≤ j))) := rfl
@[simp] theorem e_gt (i j : Int) (S : Sto) : gtI (.int i) (.int j) S = some (.bl (decide (j < i))) := rfl
@[simp] theorem e_ge (i j : Int) (S : Sto) : geI (.int i) (.int j) S = some (.bl (decide (j ≤ i))) := rfl
@[simp] theorem e_add (i j : Int) (S : Sto) : addA (.int i) (.int j) S = some (.int (i + j)) := rfl
@[simp] theorem e_sub (i j : Int) (S : Sto) : subI (.int i) (.int j) S = some (.int (i - j)) := rfl
theorem e_mod {i j : Int} (h : 0 < j) (S : Sto) : modI (.int i) (.int j) S = some (.int (i % j)) := by
  show (if decide (0 < j) = true then some (D.int (i % j)) else none) = _
  rw [if_pos (decide_eq_true h)]
@[simp] theorem e_ixT (ds : List D) (i : Int) (S : Sto) : ixD (.tup ds) (.int i) S = L2.atI ds i := rfl
@[simp] theorem e_ixL (ds : List D) (i : Int) (S : Sto) : ixD (.lst ds) (.int i) S = L2.atI ds i := rfl
@[simp] theorem e_at0 {α : Type} (a : α) (r : List α) : L2.atI (a :: r) 0 = some a := by
  have := L2.atI_nat (xs := a :: r) (j := 0) (v := a) rfl
  simpa using this
@[simp] theorem e_at1 {α : Type} (a b : α) (r : List α) : L2.atI (a :: b :: r) 1 = some b := by
  have := L2.atI_nat (xs := a :: b :: r) (j := 1) (v := b) rfl
  simpa using this
@[simp] theorem e_at2 {α : Type} (a b c : α) (r : List α) : L2.atI (a :: b :: c :: r) 2 = some c := by
  have := L2.atI_nat (xs := a :: b :: c :: r) (j := 2) (v := c) rfl
  simpa using this
@[simp] theorem e_lenL (ds : List D) (S : Sto) : lenD [.lst ds] S = some (.int ds.length) := rfl
@[simp] theorem e_lenT (ds : List D) (S : Sto) : lenD [.tup ds] S = some (.int ds.length) := rfl
@[simp] theorem e_int (i : Int) (S : Sto) : intD [.int i] S = some (.int i) := rfl
@[simp] theorem e_tupM (m : M (List D)) (S : Sto) : tupM m S = match m S with
  | .ok ds S' => if ds.length ≤ 100000 then .ok (.tup ds) S' else .stuck
  | .err k fs S' => .err k fs S'
  | .stuck => .stuck := by
  unfold tupM bd
  cases m S <;> rfl
@[simp] theorem e_lstM (m : M (List D)) (S : Sto) : lstM m S = match m S with
  | .ok ds S' => if ds.length ≤ 100000 then .ok ds S' else .stuck
  | .err k fs S' => .err k fs S'
  | .stuck => .stuck := by
  unfold lstM bd
  cases m S <;> rfl
end Sm
/-! P4 -/
namespace Sm
open PySem PySem.Spec L2
theorem beqS (a b : Str) : (a == b) = decide (a = b) := by
  by_cases h : a = b
  · subst h; rw [decide_eq_true rfl]; exact beq_self_eq_true a
  · rw [decide_eq_false h]; exact beq_eq_false_iff_ne.mpr h
theorem beqI (a b : Int) : (a == b) = decide (a = b) := by
  by_cases h : a = b
  · subst h; rw [decide_eq_true rfl]; exact beq_self_eq_true a
  · rw [decide_eq_false h]; exact beq_eq_false_iff_ne.mpr h
@[simp] theorem e_eqSS (a b : Str) (S : Sto) : eqD (.str a) (.str b) S = some (.bl (decide (a = b))) := by
  unfold eqD
  simp [D.py, PyData.eqv, PyData.depth, beqS, beqI]
@[simp] theorem e_neSS (a b : Str) (S : Sto) : neD (.str a) (.str b) S = some (.bl (!decide (a = b))) := by
  unfold neD
  simp [D.py, PyData.eqv, PyData.depth, beqS, beqI]
@[simp] theorem e_eqII (a b : Int) (S : Sto) : eqD (.int a) (.int b) S = some (.bl (decide (a = b))) := by
  unfold eqD
  simp [D.py, PyData.eqv, PyData.depth, beqS, beqI]
@[simp] theorem e_neII (a b : Int) (S : Sto) : neD (.int a) (.int b) S = some (.bl (!decide (a = b))) := by
  unfold neD
  simp [D.py, PyData.eqv, PyData.depth, beqS, beqI]
@[simp] theorem e_inS2 (x a b : Str) (S : Sto) : inD false (.str x) (.tup [.str a, .str b]) S = some (.bl (decide (a = x) || decide (b = x))) := by
  unfold inD
  simp [D.py, D.pys, PyData.eqv, PyData.depth, PyData.depthAll, anyE, beqS]
end Sm
/-! P5 -/
namespace Sm
open PySem PySem.Spec L2
/-! ### loops and comprehensions by what stays true -/
@[simp] theorem e_tupleL (ds : List D) (S : Sto) : tupleD [.lst ds] S = some (.tup ds) := rfl
@[simp] theorem e_tupleT (ds : List D) (S : Sto) : tupleD [.tup ds] S = some (.tup ds) := rfl
end Sm
/-! P7 -/
namespace Sm
open PySem PySem.Spec L2
@[simp] theorem e_orT (a b : M Bool) (S : Sto) : orT a b S = match a S with
  | .ok true S' => .ok true S'
  | .ok false S' => b S'
  | .err k fs S' => .err k fs S'
  | .stuck => .stuck := by
  unfold orT bd
  cases a S with
  | ok x S' => cases x <;> rfl
  | err k fs S' => rfl
  | stuck => rfl
@[simp] theorem e_andT (a b : M Bool) (S : Sto) : andT a b S = match a S with
  | .ok true S' => b S'
  | .ok false S' => .ok false S'
  | .err k fs S' => .err k fs S'
  | .stuck => .stuck := by
  unfold andT bd
  cases a S with
  | ok x S' => cases x <;> rfl
  | err k fs S' => rfl
  | stuck => rfl
@[simp] theorem e_notT (a : M Bool) (S : Sto) : notT a S = match a S with
  | .ok b S' => .ok (!b) S'
  | .err k fs S' => .err k fs S'
  | .stuck => .stuck := by
  unfold notT bd
  cases a S <;> rfl
@[simp] theorem e_atm2 {α : Type} (a b : α) : L2.atI [a, b] (-1) = some b := L2.atI_last [a] b
@[simp] theorem e_atm3 {α : Type} (a b c : α) : L2.atI [a, b, c] (-1) = some c := L2.atI_last [a, b] c
@[simp] theorem e_op1 (f : D → Sto → Option D) (x : D) (S : Sto) : op1 f x S = match f x S with
  | some d => .ok d S
  | none => .stuck := rfl
@[simp] theorem e_isN0 (S : Sto) (b : Bool) : isN b .non S = some (.bl (!b)) := rfl
@[simp] theorem e_isNi (i : Int) (S : Sto) (b : Bool) : isN b (.int i) S = some (.bl b) := rfl
@[simp] theorem e_isNt (ds : List D) (S : Sto) (b : Bool) : isN b (.tup ds) S = some (.bl b) := rfl
@[simp] theorem e_isNs (z : Str) (S : Sto) (b : Bool) : isN b (.str z) S = some (.bl b) := rfl
end Sm
/-! P10 -/
namespace Sm
open PySem PySem.Spec L2
@[simp] theorem e_andV (a b : M D) (S : Sto) : andV a b S = match a S with
  | .ok (.bl true) S' => b S'
  | .ok (.bl false) S' => .ok (.bl false) S'
  | .ok _ _ => .stuck
  | .err k fs S' => .err k fs S'
  | .stuck => .stuck := by
  unfold andV bd
  cases a S with
  | ok x S' =>
    cases x with
    | bl t => cases t <;> rfl
    | _ => rfl
  | err k fs S' => rfl
  | stuck => rfl
@[simp] theorem e_notV (a : M D) (S : Sto) : notV a S = match a S with
  | .ok (.bl t) S' => .ok (.bl (!t)) S'
  | .ok _ _ => .stuck
  | .err k fs S' => .err k fs S'
  | .stuck => .stuck := by
  unfold notV bd
  cases a S with
  | ok x S' => cases x <;> rfl
  | err k fs S' => rfl
  | stuck => rfl
@[simp] theorem e_isi_ii (i : Int) (S : Sto) : isiD [.int i, .ty "int"] S = some (.bl true) := rfl
@[simp] theorem e_isi_ib (i : Int) (S : Sto) : isiD [.int i, .ty "bool"] S = some (.bl false) := rfl
@[simp] theorem e_isi_ss (i : Str) (S : Sto) : isiD [.str i, .ty "str"] S = some (.bl true) := rfl
@[simp] theorem e_isi_is (i : Int) (S : Sto) : isiD [.int i, .ty "str"] S = some (.bl false) := rfl
@[simp] theorem e_isi_tt (ds : List D) (S : Sto) : isiD [.tup ds, .ty "tuple"] S = some (.bl true) := rfl
@[simp] theorem e_isi_il (i : Int) (S : Sto) : isiD [.int i, .ty "list"] S = some (.bl false) := rfl
@[simp] theorem e_isi_ll (ds : List D) (S : Sto) : isiD [.lst ds, .ty "list"] S = some (.bl true) := rfl
end Sm
/-! P12 -/
namespace Sm
open PySem PySem.Spec L2
@[simp] theorem e_sl2 (a b : D) (S : Sto) : sliceT (.tup [a, b]) (some 1) none S = .ok (.tup [b]) S := rfl
@[simp] theorem e_sl3 (a b c : D) (S : Sto) : sliceT (.tup [a, b, c]) (some 1) none S = .ok (.tup [b, c]) S := rfl
@[simp] theorem e_parS2 (i j : Nat) (m : Env → M (List Slot)) (ρ : Env) (S : Sto) : parS [i, j] 2 m ρ S = match m ρ S with
  | .ok [a, b] S' => .ok (.nx ((ρ.set i a).set j b)) S'
  | .ok _ _ => .stuck
  | .err k fs S' => .err k fs S'
  | .stuck => .stuck := by
  unfold parS bd
  cases m ρ S with
  | ok ss S' =>
    match ss with
    | [] => rfl
    | [_] => rfl
    | [_, _] => rfl
    | _ :: _ :: _ :: r => simp
  | err k fs S' => rfl
  | stuck => rfl
end Sm
/-! P13 -/
namespace Sm
open PySem PySem.Spec L2
@[simp] theorem e_slot00 (d : D) (r : List D) (S : Sto) : slotM 0 0 (.ins 0 (d :: r)) S = .ok d S := rfl
@[simp] theorem e_slot10 (d : D) (r : List D) (S : Sto) : slotM 1 0 (.ins 1 (d :: r)) S = .ok d S := rfl
@[simp] theorem e_ins0 (fs : List D) (S : Sto) : insM 0 (.ins 0 fs) S = .ok (.ins 0 fs) S := rfl
@[simp] theorem e_ins1 (fs : List D) (S : Sto) : insM 1 (.ins 1 fs) S = .ok (.ins 1 fs) S := rfl
@[simp] theorem e_iso00 (fs : List D) (S : Sto) : isoD 8 [.ins 0 fs, .cls 0] S = some (.bl true) := rfl
@[simp] theorem e_iso11 (fs : List D) (S : Sto) : isoD 8 [.ins 1 fs, .cls 1] S = some (.bl true) := rfl
@[simp] theorem e_noX {α : Type} (m : M α) (S : Sto) : noX m S = match m S with
  | .ok a S' => .ok a S'
  | _ => .stuck := rfl
end Sm
/-! P15 -/
namespace Sm
open PySem PySem.Spec L2
end Sm
/-! P16 -/
namespace Sm
open PySem PySem.Spec L2
end Sm
/-! P19 -/
namespace Sm
open PySem PySem.Spec L2
@[simp] theorem e_isNb (b : Bool) (S : Sto) (c : Bool) : isN c (.bl b) S = some (.bl c) := rfl
@[simp] theorem e_isNl (ds : List D) (S : Sto) (c : Bool) : isN c (.lst ds) S = some (.bl c) := rfl
@[simp] theorem e_eqNS (a : Str) (S : Sto) : eqD .non (.str a) S = some (.bl false) := by
  unfold eqD
  simp [D.py, PyData.eqv, PyData.depth]
@[simp] theorem e_asgT2 (i j : Nat) (m : Env → M D) (ρ : Env) (S : Sto) : asgT (.tup [i, j]) m ρ S = match m ρ S with
  | .ok (.tup [a, b]) S' => .ok (.nx ((ρ.set i (.val a)).set j (.val b))) S'
  | .ok d S' => (match bindD (.tup [i, j]) d ρ with
    | some ρ' => .ok (.nx ρ') S'
    | none => .stuck)
  | .err k fs S' => .err k fs S'
  | .stuck => .stuck := by
  unfold asgT bd
  cases m ρ S with
  | ok d S' =>
    dsimp only
    split
    · rename_i a b S2 heq
      cases heq
      rfl
    · rename_i heq
      cases heq
      cases bindD (.tup [i, j]) d ρ <;> rfl
    · rename_i heq; cases heq
    · rename_i heq; cases heq
  | err k fs S' => rfl
  | stuck => rfl
end Sm
/-! P21 -/
namespace Sm
open PySem PySem.Spec L2
@[simp] theorem e_at3 {α : Type} (a b c d : α) (r : List α) : L2.atI (a :: b :: c :: d :: r) 3 = some d := by
  have := L2.atI_nat (xs := a :: b :: c :: d :: r) (j := 3) (v := d) rfl
  simpa using this
@[simp] theorem e_kidx (ys : List Str) (m : M D) (S : Sto) : kidxM ys m S = match m S with
  | .ok (.str z) S' => (match idxS ys z with
    | some j => .ok (.int (j : Nat)) S'
    | none => .stuck)
  | .ok _ _ => .stuck
  | .err k fs S' => .err k fs S'
  | .stuck => .stuck := by
  unfold kidxM bd
  cases m S with
  | ok d S' => cases d <;> rfl
  | err k fs S' => rfl
  | stuck => rfl
@[simp] theorem e_asgT3 (i j k : Nat) (m : Env → M D) (ρ : Env) (S : Sto) : asgT (.tup [i, j, k]) m ρ S = match m ρ S with
  | .ok (.tup [a, b, c]) S' => .ok (.nx (((ρ.set i (.val a)).set j (.val b)).set k (.val c))) S'
  | .ok d S' => (match bindD (.tup [i, j, k]) d ρ with
    | some ρ' => .ok (.nx ρ') S'
    | none => .stuck)
  | .err k fs S' => .err k fs S'
  | .stuck => .stuck := by
  unfold asgT bd
  cases m ρ S with
  | ok d S' =>
    dsimp only
    split
    · rename_i a b c S2 heq
      cases heq
      rfl
    · rename_i heq
      cases heq
      cases bindD (.tup [i, j, k]) d ρ <;> rfl
    · rename_i heq; cases heq
    · rename_i heq; cases heq
  | err k fs S' => rfl
  | stuck => rfl
end Sm
/-! P22 -/
namespace Sm
open PySem PySem.Spec L2
@[simp] theorem e_insS (i : Nat) (m : Env → M (List D)) (ρ : Env) (S : Sto) : insS i m ρ S = match ρ[i]? with
  | some (.own ds) => (match m ρ S with
    | .ok [.int k, d] S' => if ds.length < 100000 ∧ 0 ≤ k ∧ k < 100000 then .ok (.nx (ρ.set i (.own (ds.take k.toNat ++ [d] ++ ds.drop k.toNat)))) S' else .stuck
    | .ok _ _ => .stuck
    | .err k fs S' => .err k fs S'
    | .stuck => .stuck)
  | _ => .stuck := by
  unfold insS
  rw [e_bd]
  unfold ownAt
  cases ρ[i]? with
  | none => rfl
  | some s =>
    cases s with
    | own ds =>
      dsimp only
      unfold bd
      cases m ρ S with
      | ok as S' =>
        dsimp only
        split
        · rename_i k d
          rfl
        · rename_i h
          split
          · rename_i k d S2 heq
            injection heq with h1 h2
            exact absurd h1 (h _ _)
          · rename_i heq; rfl
          · rename_i heq; cases heq
          · rename_i heq; cases heq
      | err k fs S' => rfl
      | stuck => rfl
    | _ => rfl
@[simp] theorem e_popM (ρ : Env) (i : Nat) (m : M D) (S : Sto) : popM ρ i m S = match ρ[i]? with
  | some (.own ds) => (match m S with
    | .ok (.int k) S' => if 0 ≤ k ∧ k < 100000 then (match ds[k.toNat]? with
      | some d => .ok (d, ρ.set i (.own (ds.eraseIdx k.toNat))) S'
      | none => .stuck) else .stuck
    | .ok _ _ => .stuck
    | .err k fs S' => .err k fs S'
    | .stuck => .stuck)
  | _ => .stuck := by
  unfold popM
  rw [e_bd]
  unfold ownAt
  cases ρ[i]? with
  | none => rfl
  | some s =>
    cases s with
    | own ds =>
      dsimp only
      unfold bd
      cases m S with
      | ok a S' =>
        dsimp only
        cases a with
        | int k =>
          dsimp only <;> split <;> first | rfl | (cases ds[k.toNat]? <;> rfl)
        | _ => rfl
      | err k fs S' => rfl
      | stuck => rfl
    | _ => rfl
end Sm
/-! P23 -/
namespace Sm
open PySem PySem.Spec L2
@[simp] theorem e_forN (t : Tg) (b : Env → M Out) (ρ : Env) (S : Sto) : Sm.forM t b [] ρ S = .ok (.nx ρ) S := rfl
@[simp] theorem e_appS' (i : Nat) (m : Env → M D) (ρ : Env) (S : Sto) : appS i m ρ S = match ρ[i]? with
  | some (.own ds) => (match m ρ S with
    | .ok d S' => if ds.length < 100000 then .ok (.nx (ρ.set i (.own (ds ++ [d])))) S' else .stuck
    | .err k fs S' => .err k fs S'
    | .stuck => .stuck)
  | _ => .stuck := by
  unfold appS
  rw [e_bd]
  unfold ownAt
  cases ρ[i]? with
  | none => rfl
  | some s =>
    cases s with
    | own ds =>
      dsimp only
      unfold bd
      cases m ρ S <;> rfl
    | _ => rfl
@[simp] theorem e_parS3 (i j k : Nat) (m : Env → M (List Slot)) (ρ : Env) (S : Sto) : parS [i, j, k] 3 m ρ S = match m ρ S with
  | .ok [a, b, c] S' => .ok (.nx (((ρ.set i a).set j b).set k c)) S'
  | .ok _ _ => .stuck
  | .err k fs S' => .err k fs S'
  | .stuck => .stuck := by
  unfold parS bd
  cases m ρ S with
  | ok ss S' =>
    match ss with
    | [] => rfl
    | [_] => rfl
    | [_, _] => rfl
    | [_, _, _] => rfl
    | _ :: _ :: _ :: _ :: r => simp
  | err k fs S' => rfl
  | stuck => rfl
end Sm
/-! P26 -/
namespace Sm
open PySem PySem.Spec L2
@[simp] theorem e_eqIS (i : Int) (s : Str) (S : Sto) : eqD (.int i) (.str s) S = some (.bl false) := by
  unfold eqD
  simp [D.py, PyData.eqv, PyData.depth]
@[simp] theorem e_eqLS (i : Int) (s : Str) (S : Sto) : eqD (.lst [.int i]) (.str s) S = some (.bl false) := by
  unfold eqD
  simp [D.py, D.pys, PyData.eqv, PyData.depth, PyData.depthAll]
end Sm
/-! P29 -/
namespace Sm
open PySem PySem.Spec L2
end Sm

/-! text: Wk -/
set_option Elab.async false
set_option linter.all false
set_option maxRecDepth 100000
set_option maxHeartbeats 0
namespace Wk
open PySem PySem.Spec PyProof.Rows L2 Sm
/-- the text by places -/
def top (i : Nat) : Stmt := PySem.Challenge.pw_seeabove_k11_known.main.body.getD i (.Pass ⟨0, 0, 0, 0⟩)
abbrev ALL_WORDS_L : List Str := ["append", "copy", "move", "out", "put", "tidy"]
abbrev KINDS_L : List Str := ["number", "above", "below", "end"]
abbrev LETTERS_L : List Str := ["a", "b", "c", "d"]
abbrev RANKS_L : List (Str × D) := [("raw", .int 0), ("shift", .int 1), ("follow", .int 2)]
def kd_Way_init (ds : List D) : List D := match ds with
  | [z0, z1, z2, z3] => [z0, z1, z2, z3]
  | _ => []
def kd_Way_init_0 (ds : List D) : List D := match ds with
  | [] => [.str "raw", .str "raw", .str "raw", .str "raw"]
  | _ => []
def kd_Way_init_1 (ds : List D) : List D := match ds with
  | [z0] => [.str "raw", .str "raw", .str "raw", z0]
  | _ => []
def kd_Way_init_2 (ds : List D) : List D := match ds with
  | [z0] => [z0, .str "raw", .str "raw", .str "raw"]
  | _ => []
def b_is_label : Sm.Env → M Out :=
  (fun ρ => bd (andV (c1 isiD (consM (vb ρ 0) (consM (rt (.ty "str")) (rt [])))) (o2 (inD false) (vb ρ 0) (rt (.tup (LETTERS_L.map D.str))))) fun d => rt (.ret d))
def m_is_label : List D → M D := fnM 1 b_is_label
def b_is_number : Sm.Env → M Out :=
  (fun ρ => bd (andV (c1 isiD (consM (vb ρ 0) (consM (rt (.ty "int")) (rt [])))) (andV (notV (c1 isiD (consM (vb ρ 0) (consM (rt (.ty "bool")) (rt []))))) (chainM leI leI (vb ρ 1) (vb ρ 0) (vb ρ 2)))) fun d => rt (.ret d))
def m_is_number : List D → M D := fnM 3 b_is_number
def b_is_pointer : Sm.Env → M Out :=
  (seqS (fun ρ => bd (orT (notT (boolT (c1 isiD (consM (vb ρ 0) (consM (rt (.ty "tuple")) (rt [])))))) (orT (boolT (o2 neD (c1 lenD (consM (vb ρ 0) (rt []))) (rt (.int 2)))) (notT (boolT (c1 isiD (consM (o2 ixD (vb ρ 0) (rt (.int 0))) (consM (rt (.ty "str")) (rt [])))))))) fun t => iteM t ((fun ρ => bd (rt (.bl false)) fun d => rt (.ret d)) ρ) (nextS ρ))
  (seqS (fun ρ => bd (boolT (o2 eqD (o2 ixD (vb ρ 0) (rt (.int 0))) (rt (.str "label")))) fun t => iteM t ((fun ρ => bd (bd (consM (o2 ixD (vb ρ 0) (rt (.int 1))) (rt [])) fun ds => callM 1 m_is_label ds) fun d => rt (.ret d)) ρ) (nextS ρ))
  (seqS (fun ρ => bd (boolT (o2 (inD false) (o2 ixD (vb ρ 0) (rt (.int 0))) (tupM (consM (rt (.str "above")) (consM (rt (.str "below")) (rt [])))))) fun t => iteM t ((fun ρ => bd (bd (consM (o2 ixD (vb ρ 0) (rt (.int 1))) (consM (rt (.int 1)) (consM (rt (.int 9)) (rt [])))) fun ds => callM 3 m_is_number ds) fun d => rt (.ret d)) ρ) (nextS ρ))
  (fun ρ => bd (andV (o2 (inD false) (o2 ixD (vb ρ 0) (rt (.int 0))) (tupM (consM (rt (.str "number")) (consM (rt (.str "end")) (rt []))))) (bd (consM (o2 ixD (vb ρ 0) (rt (.int 1))) (consM (rt (.int 0)) (consM (rt (.int 9)) (rt [])))) fun ds => callM 3 m_is_number ds)) fun d => rt (.ret d)))))
def m_is_pointer : List D → M D := fnM 1 b_is_pointer
def b_is_step : Sm.Env → M Out :=
  (seqS (fun ρ => bd (orT (notT (boolT (c1 isiD (consM (vb ρ 0) (consM (rt (.ty "tuple")) (rt [])))))) (orT (boolT (o2 neD (c1 lenD (consM (vb ρ 0) (rt []))) (rt (.int 2)))) (notT (orT (boolT (bd (o2 ixD (vb ρ 0) (rt (.int 0))) fun x => op1 (isN false) x)) (boolT (bd (consM (o2 ixD (vb ρ 0) (rt (.int 0))) (rt [])) fun ds => callM 1 m_is_label ds)))))) fun t => iteM t ((fun ρ => bd (rt (.bl false)) fun d => rt (.ret d)) ρ) (nextS ρ))
  (seqS (fun ρ => bd (orT (notT (boolT (c1 isiD (consM (o2 ixD (vb ρ 0) (rt (.int 1))) (consM (rt (.ty "tuple")) (rt [])))))) (boolT (o2 gtI (c1 lenD (consM (o2 ixD (vb ρ 0) (rt (.int 1))) (rt []))) (rt (.int 2))))) fun t => iteM t ((fun ρ => bd (rt (.bl false)) fun d => rt (.ret d)) ρ) (nextS ρ))
  (fun ρ => bd (c1 allD (consM (bd (bd (bd (o2 ixD (vb ρ 0) (rt (.int 1))) seqM) fun ds => noX (lcM (fun d => bindD (.one 1) d (wipeE ρ [1])) (fun ρ => (rt true)) (fun ρ => (bd (consM (vl ρ 1) (rt [])) fun ds => callM 1 m_is_pointer ds)) ds)) fun ds => rt (.lst ds)) (rt []))) fun d => rt (.ret d))))
def m_is_step : List D → M D := fnM 2 b_is_step
def b_Steps_init : Sm.Env → M Out :=
  (seqS (fun ρ => bd (orT (notT (boolT (c1 isiD (consM (vb ρ 1) (consM (rt (.ty "tuple")) (rt [])))))) (boolT (o2 gtI (c1 lenD (consM (vb ρ 1) (rt []))) (rt (.int 6))))) fun t => iteM t ((fun _ => stk) ρ) (nextS ρ))
  (seqS (fun ρ => bd (bd (vl ρ 1) fun d => bd (seqM d) fun ds => rt (enumL 0 ds)) fun ds => forM (.tup [2, 3]) (fun ρ => bd (notT (boolT (bd (consM (vl ρ 3) (rt [])) fun ds => callM 1 m_is_step ds))) fun t => iteM t ((fun _ => stk) ρ) (nextS ρ)) ds ρ)
  (fun ρ => bd (vl ρ 1) fun v => selfM 0 0 ρ v)))
def m_Steps_init : List D → M D := initM 4 1 0 b_Steps_init
def b_Steps_of : Sm.Env → M Out :=
  (fun ρ => bd (bd (clsAt 0 0 ρ) fun _ => bd (consM (vl ρ 1) (rt [])) fun ds => callM 1 m_Steps_init ds) fun d => rt (.ret d))
def m_Steps_of : List D → M D := fnM 2 b_Steps_of
def b__law_list : Sm.Env → M Out :=
  (seqS (setV 0 fun ρ => (tupM (consM (rt .non) (consM (tupM (consM (tupM (consM (rt (.str "below")) (consM (rt (.int 2)) (rt [])))) (rt []))) (rt [])))))
  (fun ρ => bd (bd (consM (tupM (consM (rt (.str "a")) (consM (tupM (rt [])) (rt [])))) (consM (tupM (consM (rt .non) (consM (tupM (consM (tupM (consM (rt (.str "above")) (consM (rt (.int 1)) (rt [])))) (consM (tupM (consM (rt (.str "end")) (consM (rt (.int 0)) (rt [])))) (rt [])))) (rt [])))) (consM (tupM (consM (rt .non) (consM (tupM (consM (tupM (consM (rt (.str "number")) (consM (rt (.int 1)) (rt [])))) (consM (tupM (consM (rt (.str "label")) (consM (rt (.str "a")) (rt [])))) (rt [])))) (rt [])))) (consM (vl ρ 0) (rt []))))) fun ds => bd (opt (if ds.length ≤ LIM then some () else none)) fun _ => noX (m_Steps_of [.cls 0, .tup ds])) fun d => rt (.ret d)))
def m__law_list : List D → M D := fnM 1 b__law_list
def b_is_word : Sm.Env → M Out :=
  (fun ρ => bd (andV (c1 isiD (consM (vb ρ 0) (consM (rt (.ty "str")) (rt [])))) (inKDM RANKS_L (vl ρ 0))) fun d => rt (.ret d))
def m_is_word : List D → M D := fnM 1 b_is_word
def b_Way_init : Sm.Env → M Out :=
  (seqS (fun ρ => bd (notT (boolT (c1 allD (consM (bd (bd (bd (tupM (consM (vl ρ 1) (consM (vl ρ 2) (consM (vl ρ 3) (consM (vl ρ 4) (rt [])))))) seqM) fun ds => noX (lcM (fun d => bindD (.one 5) d (wipeE ρ [5])) (fun ρ => (rt true)) (fun ρ => (bd (consM (vl ρ 5) (rt [])) fun ds => callM 1 m_is_word ds)) ds)) fun ds => rt (.lst ds)) (rt []))))) fun t => iteM t ((fun _ => stk) ρ) (nextS ρ))
  (fun ρ => bd (tupM (consM (vl ρ 1) (consM (vl ρ 2) (consM (vl ρ 3) (consM (vl ρ 4) (rt [])))))) fun v => selfM 1 0 ρ v))
def m_Way_init : List D → M D := initM 6 1 1 b_Way_init
def b_Way_every : Sm.Env → M Out :=
  (fun ρ => bd (bd (consM (vl ρ 0) (consM (vl ρ 0) (consM (vl ρ 0) (consM (vl ρ 0) (rt []))))) fun ds => bd (opt (if ds.length = 4 then some () else none)) fun _ => callM 4 m_Way_init (kd_Way_init ds)) fun d => rt (.ret d))
def m_Way_every : List D → M D := fnM 1 b_Way_every
def b_all_spots : Sm.Env → M Out :=
  (fun ρ => bd (bd (bd (bd (vl ρ 0) fun d => bd (seqM d) fun ds => rt (enumL 0 ds)) fun ds => noX (few ds (fitM (lc2M (fun d => bindD (.tup [2, 3]) d (wipeE ρ [2, 3, 1])) (fun ρ => (rt true)) (fun ρ => (range1M (consM (c1 lenD (consM (o2 ixD (vb ρ 3) (rt (.int 1))) (rt []))) (rt [])))) (fun ρ d => bindD (.one 1) d (wipeE ρ [1])) (fun ρ => (rt true)) (fun ρ => (tupM (consM (vl ρ 2) (consM (vl ρ 1) (rt []))))) ds)))) fun ds => rt (.lst ds)) fun d => rt (.ret d))
def m_all_spots : List D → M D := fnM 4 b_all_spots
def b_Steps_spots : Sm.Env → M Out :=
  (fun ρ => bd (bd (consM (bd (vl ρ 0) (slotM 0 0)) (rt [])) fun ds => callM 1 m_all_spots ds) fun d => rt (.ret d))
def m_Steps_spots : List D → M D := fnM 1 b_Steps_spots
def b_first_with : Sm.Env → M Out :=
  (seqS (fun ρ => bd (bd (vl ρ 0) fun d => bd (seqM d) fun ds => rt (enumL 0 ds)) fun ds => forM (.tup [2, 3]) (fun ρ => bd (boolT (o2 eqD (o2 ixD (vb ρ 3) (rt (.int 0))) (vb ρ 1))) fun t => iteM t ((fun ρ => bd (vl ρ 2) fun d => rt (.ret d)) ρ) (nextS ρ)) ds ρ)
  (fun ρ => bd (rt .non) fun d => rt (.ret d)))
def m_first_with : List D → M D := fnM 4 b_first_with
def b_meaning : Sm.Env → M Out :=
  (seqS (asgT (.tup [3, 4]) fun ρ => (vl ρ 2))
  (seqS (fun ρ => bd (boolT (o2 eqD (vb ρ 3) (rt (.str "label")))) fun t => iteM t ((fun ρ => bd (bd (consM (vl ρ 0) (consM (vl ρ 4) (rt []))) fun ds => callM 2 m_first_with ds) fun d => rt (.ret d)) ρ) (nextS ρ))
  (seqS (fun ρ => bd (boolT (o2 eqD (vb ρ 3) (rt (.str "number")))) fun t => iteM t ((setV 5 fun ρ => (vl ρ 4)) ρ) ((fun ρ => bd (boolT (o2 eqD (vb ρ 3) (rt (.str "end")))) fun t => iteM t ((setV 5 fun ρ => (o2 subI (o2 subI (c1 lenD (consM (vb ρ 0) (rt []))) (rt (.int 1))) (vb ρ 4))) ρ) ((setV 5 fun ρ => (bd (boolT (o2 eqD (vb ρ 3) (rt (.str "above")))) fun t => iteM t (o2 subI (vb ρ 1) (vb ρ 4)) (o2 addA (vb ρ 1) (vb ρ 4)))) ρ)) ρ))
  (fun ρ => bd (bd (boolT (chainM leI ltI (rt (.int 0)) (vb ρ 5) (c1 lenD (consM (vb ρ 0) (rt []))))) fun t => iteM t (vl ρ 5) (rt .non)) fun d => rt (.ret d)))))
def m_meaning : List D → M D := fnM 6 b_meaning
def b_meant_at : Sm.Env → M Out :=
  (fun ρ => bd (bd (consM (vl ρ 0) (consM (o2 ixD (vb ρ 1) (rt (.int 0))) (consM (o2 ixD (o2 ixD (o2 ixD (vb ρ 0) (o2 ixD (vb ρ 1) (rt (.int 0)))) (rt (.int 1))) (o2 ixD (vb ρ 1) (rt (.int 1)))) (rt [])))) fun ds => callM 3 m_meaning ds) fun d => rt (.ret d))
def m_meant_at : List D → M D := fnM 2 b_meant_at
def b_Steps_call : Sm.Env → M Out :=
  (seqS (fun ρ => bd (orT (notT (boolT (c1 isiD (consM (vb ρ 1) (consM (rt (.ty "tuple")) (rt [])))))) (orT (boolT (o2 neD (c1 lenD (consM (vb ρ 1) (rt []))) (rt (.int 2)))) (notT (boolT (c1 allD (consM (bd (bd (bd (vl ρ 1) seqM) fun ds => noX (lcM (fun d => bindD (.one 2) d (wipeE ρ [2])) (fun ρ => (rt true)) (fun ρ => (bd (consM (vl ρ 2) (consM (rt (.int 0)) (consM (rt (.int 6)) (rt [])))) fun ds => callM 3 m_is_number ds)) ds)) fun ds => rt (.lst ds)) (rt []))))))) fun t => iteM t ((fun _ => stk) ρ) (nextS ρ))
  (seqS (fun ρ => bd (boolT (o2 (inD true) (vb ρ 1) (bd (consM (bd (vl ρ 0) (slotM 0 0)) (rt [])) fun ds => callM 1 m_all_spots ds))) fun t => iteM t ((fun _ => stk) ρ) (nextS ρ))
  (fun ρ => bd (bd (consM (bd (vl ρ 0) (slotM 0 0)) (consM (vl ρ 1) (rt []))) fun ds => callM 2 m_meant_at ds) fun d => rt (.ret d))))
def m_Steps_call : List D → M D := fnM 3 b_Steps_call
def b_are_whole : Sm.Env → M Out :=
  (fun ρ => bd (c1 allD (consM (bd (bd (bd (bd (consM (vl ρ 0) (rt [])) fun ds => callM 1 m_all_spots ds) seqM) fun ds => noX (lcM (fun d => bindD (.one 1) d (wipeE ρ [1])) (fun ρ => (rt true)) (fun ρ => (bd (bd (consM (vl ρ 0) (consM (vl ρ 1) (rt []))) fun ds => callM 2 m_meant_at ds) fun x => op1 (isN true) x)) ds)) fun ds => rt (.lst ds)) (rt []))) fun d => rt (.ret d))
def m_are_whole : List D → M D := fnM 2 b_are_whole
def b_Steps_is_whole : Sm.Env → M Out :=
  (fun ρ => bd (bd (consM (bd (vl ρ 0) (slotM 0 0)) (rt [])) fun ds => callM 1 m_are_whole ds) fun d => rt (.ret d))
def m_Steps_is_whole : List D → M D := fnM 1 b_Steps_is_whole
def b_check_steps : Sm.Env → M Out :=
  (fun ρ => bd (notT (boolT (c1 (isoD 8) (consM (vb ρ 0) (consM (rt (.cls 0)) (rt [])))))) fun t => iteM t ((fun _ => stk) ρ) (nextS ρ))
def m_check_steps : List D → M D := fnM 1 b_check_steps
def b_are_rows : Sm.Env → M Out :=
  (fun ρ => bd (andV (c1 isiD (consM (vb ρ 0) (consM (rt (.ty "tuple")) (rt [])))) (andV (o2 leI (c1 lenD (consM (vb ρ 0) (rt []))) (rt (.int 6))) (c1 allD (consM (bd (bd (bd (vl ρ 0) seqM) fun ds => noX (lcM (fun d => bindD (.one 1) d (wipeE ρ [1])) (fun ρ => (rt true)) (fun ρ => (bd (consM (vl ρ 1) (rt [])) fun ds => callM 1 m_is_step ds)) ds)) fun ds => rt (.lst ds)) (rt []))))) fun d => rt (.ret d))
def m_are_rows : List D → M D := fnM 2 b_are_rows
def b_is_edit : Sm.Env → M Out :=
  (seqS (fun ρ => bd (orT (notT (boolT (c1 isiD (consM (vb ρ 1) (consM (rt (.ty "tuple")) (rt [])))))) (orT (boolT (o2 ltI (c1 lenD (consM (vb ρ 1) (rt []))) (rt (.int 2)))) (notT (boolT (c1 isiD (consM (o2 ixD (vb ρ 1) (rt (.int 0))) (consM (rt (.ty "str")) (rt [])))))))) fun t => iteM t ((fun ρ => bd (rt (.bl false)) fun d => rt (.ret d)) ρ) (nextS ρ))
  (seqS (parS [2, 3] 2 fun ρ => (bd (c1 lenD (consM (vb ρ 0) (rt []))) fun d => bd (bd (bd (vb ρ 1) fun x => bd (bd (rt (.int 1)) asI) fun i => bd (rt none) fun j => sliceT x i j) fun d => bd (rt []) fun ss => rt (.val d :: ss)) fun ss => rt (.val d :: ss)))
  (seqS (fun ρ => bd (boolT (o2 eqD (o2 ixD (vb ρ 1) (rt (.int 0))) (rt (.str "join")))) fun t => iteM t ((fun ρ => bd (andV (o2 eqD (c1 lenD (consM (vb ρ 1) (rt []))) (rt (.int 2))) (andV (bd (consM (o2 ixD (vb ρ 1) (rt (.int 1))) (rt [])) fun ds => callM 1 m_are_rows ds) (o2 leI (o2 addA (vb ρ 2) (c1 lenD (consM (o2 ixD (vb ρ 1) (rt (.int 1))) (rt [])))) (rt (.int 6))))) fun d => rt (.ret d)) ρ) (nextS ρ))
  (seqS (fun ρ => bd (boolT (o2 eqD (o2 ixD (vb ρ 1) (rt (.int 0))) (rt (.str "put")))) fun t => iteM t ((fun ρ => bd (andV (o2 eqD (c1 lenD (consM (vb ρ 1) (rt []))) (rt (.int 2))) (andV (o2 ltI (vb ρ 2) (rt (.int 6))) (bd (consM (o2 ixD (vb ρ 1) (rt (.int 1))) (consM (rt (.int 0)) (consM (vl ρ 2) (rt [])))) fun ds => callM 3 m_is_number ds))) fun d => rt (.ret d)) ρ) (nextS ρ))
  (seqS (fun ρ => bd (boolT (o2 eqD (o2 ixD (vb ρ 1) (rt (.int 0))) (rt (.str "out")))) fun t => iteM t ((fun ρ => bd (andV (o2 eqD (c1 lenD (consM (vb ρ 1) (rt []))) (rt (.int 2))) (bd (consM (o2 ixD (vb ρ 1) (rt (.int 1))) (consM (rt (.int 0)) (consM (o2 subI (vb ρ 2) (rt (.int 1))) (rt [])))) fun ds => callM 3 m_is_number ds)) fun d => rt (.ret d)) ρ) (nextS ρ))
  (seqS (fun ρ => bd (orT (boolT (o2 neD (c1 lenD (consM (vb ρ 1) (rt []))) (rt (.int 3)))) (notT (boolT (bd (consM (o2 ixD (vb ρ 1) (rt (.int 1))) (consM (rt (.int 0)) (consM (o2 subI (vb ρ 2) (rt (.int 1))) (rt [])))) fun ds => callM 3 m_is_number ds)))) fun t => iteM t ((fun ρ => bd (rt (.bl false)) fun d => rt (.ret d)) ρ) (nextS ρ))
  (seqS (fun ρ => bd (boolT (o2 eqD (o2 ixD (vb ρ 1) (rt (.int 0))) (rt (.str "move")))) fun t => iteM t ((fun ρ => bd (andV (bd (consM (o2 ixD (vb ρ 1) (rt (.int 2))) (consM (rt (.int 0)) (consM (o2 subI (vb ρ 2) (rt (.int 1))) (rt [])))) fun ds => callM 3 m_is_number ds) (o2 neD (o2 ixD (vb ρ 1) (rt (.int 1))) (o2 ixD (vb ρ 1) (rt (.int 2))))) fun d => rt (.ret d)) ρ) (nextS ρ))
  (fun ρ => bd (andV (o2 eqD (o2 ixD (vb ρ 1) (rt (.int 0))) (rt (.str "copy"))) (andV (o2 ltI (vb ρ 2) (rt (.int 6))) (bd (consM (o2 ixD (vb ρ 3) (rt (.int 1))) (consM (rt (.int 0)) (consM (vl ρ 2) (rt [])))) fun ds => callM 3 m_is_number ds))) fun d => rt (.ret d)))))))))
def m_is_edit : List D → M D := fnM 4 b_is_edit
def b_Steps_rows : Sm.Env → M Out :=
  (fun ρ => bd (bd (vl ρ 0) (slotM 0 0)) fun d => rt (.ret d))
def m_Steps_rows : List D → M D := fnM 1 b_Steps_rows
def b_sources : Sm.Env → M Out :=
  (seqS (setN 2 fun ρ => (bd (range1M (consM (c1 lenD (consM (vb ρ 0) (rt []))) (rt []))) fun ds => noX (lcM (fun d => bindD (.one 3) d (wipeE ρ [3])) (fun ρ => (rt true)) (fun ρ => (tupM (consM (rt (.str "old")) (consM (vl ρ 3) (consM (rt (.bl false)) (rt [])))))) ds)))
  (seqS (fun ρ => bd (boolT (o2 eqD (o2 ixD (vb ρ 1) (rt (.int 0))) (rt (.str "put")))) fun t => iteM t ((insS 2 fun ρ => (consM (o2 ixD (vb ρ 1) (rt (.int 1))) (consM (rt .non) (rt [])))) ρ) ((fun ρ => bd (boolT (o2 eqD (o2 ixD (vb ρ 1) (rt (.int 0))) (rt (.str "out")))) fun t => iteM t ((fun ρ => bd (popM ρ 2 (o2 ixD (vb ρ 1) (rt (.int 1)))) fun r => rt (.nx r.2)) ρ) ((fun ρ => bd (boolT (o2 eqD (o2 ixD (vb ρ 1) (rt (.int 0))) (rt (.str "move")))) fun t => iteM t ((seqS (fun ρ => bd (popM ρ 2 (o2 ixD (vb ρ 1) (rt (.int 1)))) fun r => rt (.nx (r.2.set 4 (.val r.1))))
  (insS 2 fun ρ => (consM (o2 ixD (vb ρ 1) (rt (.int 2))) (consM (vl ρ 4) (rt []))))) ρ) ((fun ρ => bd (boolT (o2 eqD (o2 ixD (vb ρ 1) (rt (.int 0))) (rt (.str "copy")))) fun t => iteM t ((insS 2 fun ρ => (consM (o2 ixD (vb ρ 1) (rt (.int 2))) (consM (tupM (consM (rt (.str "old")) (consM (o2 ixD (vb ρ 1) (rt (.int 1))) (consM (rt (.bl true)) (rt []))))) (rt [])))) ρ) ((setN 2 fun ρ => (lstM (appM (bd (vb ρ 2) starM) (appM (bd (bd (bd (range1M (consM (c1 lenD (consM (o2 ixD (vb ρ 1) (rt (.int 1))) (rt []))) (rt []))) fun ds => noX (lcM (fun d => bindD (.one 3) d (wipeE ρ [3])) (fun ρ => (rt true)) (fun ρ => (tupM (consM (rt (.str "joined")) (consM (vl ρ 3) (consM (rt (.bl false)) (rt [])))))) ds)) fun ds => rt (.lst ds)) starM) (rt []))))) ρ)) ρ)) ρ)) ρ))
  (fun ρ => (fun ρ => bd (vl ρ 2) fun d => rt (.ret d)) (frzS [2] ρ))))
def m_sources : List D → M D := fnM 5 b_sources
def b_standing : Sm.Env → M Out :=
  (fun ρ => bd (bd (boolT (o2 (inD false) (tupM (consM (vl ρ 1) (consM (vl ρ 2) (consM (rt (.bl false)) (rt []))))) (vb ρ 0))) fun t => iteM t (idxM (vb ρ 0) (tupM (consM (vl ρ 1) (consM (vl ρ 2) (consM (rt (.bl false)) (rt [])))))) (rt .non)) fun d => rt (.ret d))
def m_standing : List D → M D := fnM 3 b_standing
def b_pointing : Sm.Env → M Out :=
  (seqS (setV 4 fun ρ => (vl ρ 2))
  (seqS (fun ρ => bd (boolT (o2 eqD (vb ρ 0) (rt (.str "above")))) fun t => iteM t ((setV 4 fun ρ => (o2 subI (vb ρ 1) (vb ρ 2))) ρ) ((fun ρ => bd (boolT (o2 eqD (vb ρ 0) (rt (.str "below")))) fun t => iteM t ((setV 4 fun ρ => (o2 subI (vb ρ 2) (vb ρ 1))) ρ) ((fun ρ => bd (boolT (o2 eqD (vb ρ 0) (rt (.str "end")))) fun t => iteM t ((setV 4 fun ρ => (o2 subI (o2 subI (vb ρ 3) (rt (.int 1))) (vb ρ 2))) ρ) (nextS ρ)) ρ)) ρ))
  (seqS (setV 5 fun ρ => (bd (boolT (o2 (inD false) (vb ρ 0) (tupM (consM (rt (.str "above")) (consM (rt (.str "below")) (rt [])))))) fun t => iteM t (rt (.int 1)) (rt (.int 0))))
  (fun ρ => bd (bd (boolT (bd (consM (vl ρ 4) (consM (vl ρ 5) (consM (rt (.int 9)) (rt [])))) fun ds => callM 3 m_is_number ds)) fun t => iteM t (tupM (consM (vl ρ 0) (consM (vl ρ 4) (rt [])))) (rt .non)) fun d => rt (.ret d)))))
def m_pointing : List D → M D := fnM 6 b_pointing
def b_kept : Sm.Env → M Out :=
  (seqS (fun ρ => bd (orT (boolT (o2 eqD (o2 ixD (vb ρ 2) (rt (.int 0))) (rt (.str "label")))) (boolT (bd (vb ρ 4) fun x => op1 (isN false) x))) fun t => iteM t ((fun ρ => bd (vl ρ 2) fun d => rt (.ret d)) ρ) (nextS ρ))
  (seqS (setV 6 fun ρ => (o2 ixD (vb ρ 0) (kidxM KINDS_L (o2 ixD (vb ρ 2) (rt (.int 0))))))
  (seqS (fun ρ => bd (orT (boolT (o2 eqD (vb ρ 6) (rt (.str "raw")))) (andT (boolT (o2 eqD (vb ρ 6) (rt (.str "shift")))) (boolT (o2 eqD (o2 ixD (vb ρ 1) (rt (.int 0))) (rt (.str "move")))))) fun t => iteM t ((fun ρ => bd (vl ρ 2) fun d => rt (.ret d)) ρ) (nextS ρ))
  (seqS (setV 7 fun ρ => (bd (consM (o2 ixD (vb ρ 2) (rt (.int 0))) (consM (vl ρ 3) (consM (vl ρ 4) (consM (vl ρ 5) (rt []))))) fun ds => callM 4 m_pointing ds))
  (fun ρ => bd (bd (boolT (bd (vb ρ 7) fun x => op1 (isN false) x)) fun t => iteM t (vl ρ 2) (vl ρ 7)) fun d => rt (.ret d))))))
def m_kept : List D → M D := fnM 8 b_kept
def b_label_of : Sm.Env → M Out :=
  (fun ρ => bd (bd (boolT (o2 eqD (o2 ixD (vb ρ 2) (rt (.int 0))) (rt (.str "old")))) fun t => iteM t (o2 ixD (o2 ixD (vb ρ 0) (o2 ixD (vb ρ 2) (rt (.int 1)))) (rt (.int 0))) (o2 ixD (o2 ixD (o2 ixD (vb ρ 1) (rt (.int 1))) (o2 ixD (vb ρ 2) (rt (.int 1)))) (rt (.int 0)))) fun d => rt (.ret d))
def m_label_of : List D → M D := fnM 3 b_label_of
def b_edited : Sm.Env → M Out :=
  (seqS (parS [5, 6, 7] 3 fun ρ => (bd (bd (consM (vl ρ 1) (consM (vl ρ 2) (rt []))) fun ds => callM 2 m_sources ds) fun d => bd (bd (lstM (rt [])) fun ds => bd (bd (lstM (rt [])) fun ds => bd (rt []) fun ss => rt (.own ds :: ss)) fun ss => rt (.own ds :: ss)) fun ss => rt (.val d :: ss)))
  (seqS (fun ρ => bd (bd (vl ρ 5) fun d => bd (seqM d) fun ds => rt (enumL 0 ds)) fun ds => forM (.tup [8, 9]) (seqS (setN 10 fun ρ => (lstM (rt [])))
  (seqS (fun ρ => bd (boolT (bd (vb ρ 9) fun x => op1 (isN true) x)) fun t => iteM t ((seqS (setV 15 fun ρ => (bd (boolT (o2 eqD (o2 ixD (vb ρ 9) (rt (.int 0))) (rt (.str "old")))) fun t => iteM t (vl ρ 1) (o2 ixD (vb ρ 2) (rt (.int 1)))))
  (fun ρ => bd (bd (o2 ixD (o2 ixD (vb ρ 15) (o2 ixD (vb ρ 9) (rt (.int 1)))) (rt (.int 1))) seqM) fun ds => forM (.one 16) (seqS (setV 12 fun ρ => (bd (consM (vl ρ 15) (consM (o2 ixD (vb ρ 9) (rt (.int 1))) (consM (vl ρ 16) (rt [])))) fun ds => callM 3 m_meaning ds))
  (seqS (setV 13 fun ρ => (bd (boolT (bd (vb ρ 12) fun x => op1 (isN false) x)) fun t => iteM t (rt .non) (bd (consM (vl ρ 5) (consM (o2 ixD (vb ρ 9) (rt (.int 0))) (consM (vl ρ 12) (rt [])))) fun ds => callM 3 m_standing ds)))
  (seqS (appS 7 fun ρ => (tupM (consM (vl ρ 8) (consM (c1 lenD (consM (vb ρ 10) (rt []))) (consM (vl ρ 12) (consM (vl ρ 13) (rt [])))))))
  (appS 10 fun ρ => (bd (consM (vl ρ 0) (consM (vl ρ 2) (consM (vl ρ 16) (consM (vl ρ 8) (consM (vl ρ 13) (consM (c1 lenD (consM (vb ρ 5) (rt []))) (rt []))))))) fun ds => callM 6 m_kept ds))))) ds ρ)) ρ) (nextS ρ))
  (appS 6 fun ρ => (tupM (consM (bd (boolT (bd (vb ρ 9) fun x => op1 (isN false) x)) fun t => iteM t (rt .non) (bd (consM (vl ρ 1) (consM (vl ρ 2) (consM (vl ρ 9) (rt [])))) fun ds => callM 3 m_label_of ds)) (consM (c1 tupleD (consM (vb ρ 10) (rt []))) (rt []))))))) ds ρ)
  (seqS (setV 3 fun ρ => (c1 tupleD (consM (vb ρ 6) (rt []))))
  (seqS (setN 4 fun ρ => (lstM (rt [])))
  (seqS (fun ρ => (fun ρ => bd (bd (vl ρ 7) seqM) fun ds => forM (.tup [8, 11, 12, 13]) (seqS (setV 14 fun ρ => (bd (consM (vl ρ 3) (consM (vl ρ 8) (consM (o2 ixD (o2 ixD (o2 ixD (vb ρ 3) (vb ρ 8)) (rt (.int 1))) (vb ρ 11)) (rt [])))) fun ds => callM 3 m_meaning ds))
  (fun ρ => bd (andT (boolT (bd (vb ρ 12) fun x => op1 (isN true) x)) (orT (boolT (bd (vb ρ 13) fun x => op1 (isN false) x)) (boolT (o2 neD (vb ρ 14) (vb ρ 13))))) fun t => iteM t ((appS 4 fun ρ => (tupM (consM (vl ρ 8) (consM (vl ρ 11) (rt []))))) ρ) (nextS ρ))) ds ρ) (frzS [7] ρ))
  (fun ρ => (fun ρ => bd (tupM (consM (vl ρ 3) (consM (vl ρ 4) (rt [])))) fun d => rt (.ret d)) (frzS [4] ρ)))))))
def m_edited : List D → M D := fnM 17 b_edited
def b_Way_call : Sm.Env → M Out :=
  (seqS (fun ρ => bd (bd (consM (vl ρ 1) (rt [])) fun ds => callM 1 m_check_steps ds) fun _ => rt (.nx ρ))
  (seqS (fun ρ => bd (notT (boolT (bd (consM (bd (vl ρ 1) fun d => bd (insM 0 d) fun d => noX (callM 1 m_Steps_rows [d])) (consM (vl ρ 2) (rt []))) fun ds => callM 2 m_is_edit ds))) fun t => iteM t ((fun _ => stk) ρ) (nextS ρ))
  (fun ρ => bd (bd (consM (o2 ixD (bd (consM (bd (vl ρ 0) (slotM 1 0)) (consM (bd (vl ρ 1) fun d => bd (insM 0 d) fun d => noX (callM 1 m_Steps_rows [d])) (consM (vl ρ 2) (rt [])))) fun ds => callM 3 m_edited ds) (rt (.int 0))) (rt [])) fun ds => callM 1 m_Steps_init ds) fun d => rt (.ret d))))
def m_Way_call : List D → M D := fnM 3 b_Way_call
def b_Steps_getitem : Sm.Env → M Out :=
  (seqS (fun ρ => bd (notT (boolT (bd (consM (vl ρ 1) (consM (rt (.int 0)) (consM (o2 subI (c1 lenD (consM (bd (vl ρ 0) (slotM 0 0)) (rt []))) (rt (.int 1))) (rt [])))) fun ds => callM 3 m_is_number ds))) fun t => iteM t ((fun _ => stk) ρ) (nextS ρ))
  (fun ρ => bd (o2 ixD (bd (vl ρ 0) (slotM 0 0)) (vb ρ 1)) fun d => rt (.ret d)))
def m_Steps_getitem : List D → M D := fnM 2 b_Steps_getitem
def b_check_way : Sm.Env → M Out :=
  (fun ρ => bd (notT (boolT (c1 (isoD 8) (consM (vb ρ 0) (consM (rt (.cls 1)) (rt [])))))) fun t => iteM t ((fun _ => stk) ρ) (nextS ρ))
def m_check_way : List D → M D := fnM 1 b_check_way
def b_check_edit : Sm.Env → M Out :=
  (seqS (fun ρ => bd (bd (consM (vl ρ 0) (rt [])) fun ds => callM 1 m_check_steps ds) fun _ => rt (.nx ρ))
  (fun ρ => bd (notT (boolT (bd (consM (bd (vl ρ 0) fun d => bd (insM 0 d) fun d => noX (callM 1 m_Steps_rows [d])) (consM (vl ρ 1) (rt []))) fun ds => callM 2 m_is_edit ds))) fun t => iteM t ((fun _ => stk) ρ) (nextS ρ)))
def m_check_edit : List D → M D := fnM 2 b_check_edit
def b_Way_words : Sm.Env → M Out :=
  (fun ρ => bd (bd (vl ρ 0) (slotM 1 0)) fun d => rt (.ret d))
def m_Way_words : List D → M D := fnM 1 b_Way_words
def b_astray : Sm.Env → M Out :=
  (seqS (fun ρ => bd (bd (consM (vl ρ 0) (rt [])) fun ds => callM 1 m_check_way ds) fun _ => rt (.nx ρ))
  (seqS (fun ρ => bd (bd (consM (vl ρ 1) (consM (vl ρ 2) (rt []))) fun ds => callM 2 m_check_edit ds) fun _ => rt (.nx ρ))
  (fun ρ => bd (o2 ixD (bd (consM (bd (vl ρ 0) fun d => bd (insM 1 d) fun d => noX (callM 1 m_Way_words [d])) (consM (bd (vl ρ 1) fun d => bd (insM 0 d) fun d => noX (callM 1 m_Steps_rows [d])) (consM (vl ρ 2) (rt [])))) fun ds => callM 3 m_edited ds) (rt (.int 1))) fun d => rt (.ret d))))
def m_astray : List D → M D := fnM 3 b_astray
def b_origins : Sm.Env → M Out :=
  (seqS (fun ρ => bd (bd (consM (vl ρ 0) (consM (vl ρ 1) (rt []))) fun ds => callM 2 m_check_edit ds) fun _ => rt (.nx ρ))
  (fun ρ => bd (bd (bd (bd (bd (consM (bd (vl ρ 0) fun d => bd (insM 0 d) fun d => noX (callM 1 m_Steps_rows [d])) (consM (vl ρ 1) (rt []))) fun ds => callM 2 m_sources ds) seqM) fun ds => noX (lcM (fun d => bindD (.one 2) d (wipeE ρ [2])) (fun ρ => (rt true)) (fun ρ => (bd (boolT (bd (vb ρ 2) fun x => op1 (isN false) x)) fun t => iteM t (rt .non) (bd (vb ρ 2) fun x => bd (rt none) fun i => bd (bd (rt (.int 2)) asI) fun j => sliceT x i j))) ds)) fun ds => rt (.lst ds)) fun d => rt (.ret d)))
def m_origins : List D → M D := fnM 3 b_origins
def b__law_edits_right : Sm.Env → M Out :=
  (seqS (parS [6, 7, 8, 9] 4 fun ρ => (bd (callM 0 m__law_list []) fun d => bd (bd (bd (rt []) fun ds => bd (opt (if ds.length = 0 then some () else none)) fun _ => callM 4 m_Way_init (kd_Way_init_0 ds)) fun d => bd (bd (bd (consM (rt (.str "shift")) (rt [])) fun ds => callM 1 m_Way_every ds) fun d => bd (bd (bd (consM (rt (.str "follow")) (rt [])) fun ds => callM 1 m_Way_every ds) fun d => bd (rt []) fun ss => rt (.val d :: ss)) fun ss => rt (.val d :: ss)) fun ss => rt (.val d :: ss)) fun ss => rt (.val d :: ss)))
  (seqS (fun ρ => bd (orT (boolT (o2 neD (bd (bd (bd (bd (vl ρ 6) fun d => bd (insM 0 d) fun d => callM 1 m_Steps_spots [d]) seqM) fun ds => noX (lcM (fun d => bindD (.one 11) d (wipeE ρ [11])) (fun ρ => (rt true)) (fun ρ => (bd (vl ρ 6) fun d => bd (insM 0 d) fun d => bd (consM (vl ρ 11) (rt [])) fun ds => callM 2 m_Steps_call (d :: ds))) ds)) fun ds => rt (.lst ds)) (bd (lstM (consM (rt (.int 0)) (consM (rt (.int 3)) (consM (rt (.int 1)) (consM (rt (.int 0)) (consM (rt .non) (rt []))))))) fun ds => rt (.lst ds)))) (boolT (bd (vl ρ 6) fun d => bd (insM 0 d) fun d => callM 1 m_Steps_is_whole [d]))) fun t => iteM t ((fun ρ => bd (rt (.bl false)) fun d => rt (.ret d)) ρ) (nextS ρ))
  (seqS (setN 0 fun ρ => (bd (bd (tupM (consM (vl ρ 7) (consM (vl ρ 8) (consM (vl ρ 9) (rt []))))) seqM) fun ds => noX (lcM (fun d => bindD (.one 10) d (wipeE ρ [10])) (fun ρ => (rt true)) (fun ρ => (bd (bd (vl ρ 10) fun d => bd (insM 1 d) fun d => bd (consM (vl ρ 6) (consM (tupM (consM (rt (.str "put")) (consM (rt (.int 1)) (rt [])))) (rt []))) fun ds => callM 3 m_Way_call (d :: ds)) fun d => bd (insM 0 d) fun d => noX (callM 1 m_Steps_rows [d]))) ds)))
  (seqS (fun ρ => bd (orT (boolT (o2 neD (o2 ixD (vb ρ 0) (rt (.int 0))) (o2 addA (tupM (consM (bd (vl ρ 6) fun x => bd (rt (.int 0)) fun y => bd (insM 0 x) fun x => callM 2 m_Steps_getitem [x, y]) (consM (tupM (consM (rt .non) (consM (tupM (rt [])) (rt [])))) (rt [])))) (bd (bd (vl ρ 6) fun d => bd (insM 0 d) fun d => noX (callM 1 m_Steps_rows [d])) fun x => bd (bd (rt (.int 1)) asI) fun i => bd (rt none) fun j => sliceT x i j)))) (orT (boolT (o2 neD (o2 ixD (vb ρ 0) (rt (.int 1))) (o2 ixD (vb ρ 0) (rt (.int 2))))) (boolT (o2 neD (o2 ixD (o2 ixD (vb ρ 0) (rt (.int 1))) (rt (.int 2))) (tupM (consM (rt .non) (consM (tupM (consM (tupM (consM (rt (.str "above")) (consM (rt (.int 2)) (rt [])))) (consM (tupM (consM (rt (.str "end")) (consM (rt (.int 0)) (rt [])))) (rt [])))) (rt [])))))))) fun t => iteM t ((fun ρ => bd (rt (.bl false)) fun d => rt (.ret d)) ρ) (nextS ρ))
  (seqS (fun ρ => bd (orT (boolT (o2 neD (o2 ixD (o2 ixD (vb ρ 0) (rt (.int 1))) (rt (.int 3))) (tupM (consM (rt .non) (consM (tupM (consM (tupM (consM (rt (.str "number")) (consM (rt (.int 2)) (rt [])))) (consM (tupM (consM (rt (.str "label")) (consM (rt (.str "a")) (rt [])))) (rt [])))) (rt [])))))) (orT (boolT (o2 neD (bd (consM (vl ρ 7) (consM (vl ρ 6) (consM (tupM (consM (rt (.str "put")) (consM (rt (.int 1)) (rt [])))) (rt [])))) fun ds => callM 3 m_astray ds) (bd (lstM (consM (tupM (consM (rt (.int 2)) (consM (rt (.int 0)) (rt [])))) (consM (tupM (consM (rt (.int 3)) (consM (rt (.int 0)) (rt [])))) (rt [])))) fun ds => rt (.lst ds)))) (boolT (o2 neD (bd (consM (vl ρ 9) (consM (vl ρ 6) (consM (tupM (consM (rt (.str "put")) (consM (rt (.int 1)) (rt [])))) (rt [])))) fun ds => callM 3 m_astray ds) (bd (lstM (rt [])) fun ds => rt (.lst ds)))))) fun t => iteM t ((fun ρ => bd (rt (.bl false)) fun d => rt (.ret d)) ρ) (nextS ρ))
  (seqS (setN 1 fun ρ => (bd (bd (tupM (consM (vl ρ 7) (consM (vl ρ 8) (consM (vl ρ 9) (rt []))))) seqM) fun ds => noX (lcM (fun d => bindD (.one 10) d (wipeE ρ [10])) (fun ρ => (rt true)) (fun ρ => (bd (bd (vl ρ 10) fun d => bd (insM 1 d) fun d => bd (consM (vl ρ 6) (consM (tupM (consM (rt (.str "move")) (consM (rt (.int 0)) (consM (rt (.int 3)) (rt []))))) (rt []))) fun ds => callM 3 m_Way_call (d :: ds)) fun d => bd (insM 0 d) fun d => noX (callM 1 m_Steps_rows [d]))) ds)))
  (seqS (fun ρ => bd (orT (boolT (o2 neD (o2 ixD (vb ρ 1) (rt (.int 0))) (o2 addA (bd (bd (vl ρ 6) fun d => bd (insM 0 d) fun d => noX (callM 1 m_Steps_rows [d])) fun x => bd (bd (rt (.int 1)) asI) fun i => bd (rt none) fun j => sliceT x i j) (bd (bd (vl ρ 6) fun d => bd (insM 0 d) fun d => noX (callM 1 m_Steps_rows [d])) fun x => bd (rt none) fun i => bd (bd (rt (.int 1)) asI) fun j => sliceT x i j)))) (boolT (o2 neD (o2 ixD (vb ρ 1) (rt (.int 1))) (o2 ixD (vb ρ 1) (rt (.int 0)))))) fun t => iteM t ((fun ρ => bd (rt (.bl false)) fun d => rt (.ret d)) ρ) (nextS ρ))
  (seqS (fun ρ => bd (orT (boolT (o2 neD (o2 ixD (o2 ixD (vb ρ 1) (rt (.int 2))) (rt (.int 0))) (tupM (consM (rt .non) (consM (tupM (consM (tupM (consM (rt (.str "above")) (consM (rt (.int 1)) (rt [])))) (consM (tupM (consM (rt (.str "end")) (consM (rt (.int 1)) (rt [])))) (rt [])))) (rt [])))))) (boolT (o2 neD (o2 ixD (o2 ixD (vb ρ 1) (rt (.int 2))) (rt (.int 1))) (tupM (consM (rt .non) (consM (tupM (consM (tupM (consM (rt (.str "number")) (consM (rt (.int 0)) (rt [])))) (consM (tupM (consM (rt (.str "label")) (consM (rt (.str "a")) (rt [])))) (rt [])))) (rt []))))))) fun t => iteM t ((fun ρ => bd (rt (.bl false)) fun d => rt (.ret d)) ρ) (nextS ρ))
  (seqS (fun ρ => bd (orT (boolT (o2 neD (bd (consM (vl ρ 7) (consM (vl ρ 6) (consM (tupM (consM (rt (.str "move")) (consM (rt (.int 0)) (consM (rt (.int 3)) (rt []))))) (rt [])))) fun ds => callM 3 m_astray ds) (bd (lstM (consM (tupM (consM (rt (.int 0)) (consM (rt (.int 0)) (rt [])))) (consM (tupM (consM (rt (.int 0)) (consM (rt (.int 1)) (rt [])))) (consM (tupM (consM (rt (.int 1)) (consM (rt (.int 0)) (rt [])))) (rt []))))) fun ds => rt (.lst ds)))) (boolT (o2 neD (bd (consM (vl ρ 9) (consM (vl ρ 6) (consM (tupM (consM (rt (.str "move")) (consM (rt (.int 0)) (consM (rt (.int 3)) (rt []))))) (rt [])))) fun ds => callM 3 m_astray ds) (bd (lstM (consM (tupM (consM (rt (.int 0)) (consM (rt (.int 0)) (rt [])))) (rt []))) fun ds => rt (.lst ds))))) fun t => iteM t ((fun ρ => bd (rt (.bl false)) fun d => rt (.ret d)) ρ) (nextS ρ))
  (seqS (fun ρ => bd (orT (boolT (o2 neD (bd (consM (vl ρ 9) (consM (vl ρ 6) (consM (tupM (consM (rt (.str "out")) (consM (rt (.int 0)) (rt [])))) (rt [])))) fun ds => callM 3 m_astray ds) (bd (lstM (consM (tupM (consM (rt (.int 0)) (consM (rt (.int 0)) (rt [])))) (consM (tupM (consM (rt (.int 1)) (consM (rt (.int 1)) (rt [])))) (rt [])))) fun ds => rt (.lst ds)))) (boolT (o2 neD (o2 ixD (bd (bd (vl ρ 9) fun d => bd (insM 1 d) fun d => bd (consM (vl ρ 6) (consM (tupM (consM (rt (.str "out")) (consM (rt (.int 0)) (rt [])))) (rt []))) fun ds => callM 3 m_Way_call (d :: ds)) fun d => bd (insM 0 d) fun d => noX (callM 1 m_Steps_rows [d])) (rt (.int 1))) (tupM (consM (rt .non) (consM (tupM (consM (tupM (consM (rt (.str "number")) (consM (rt (.int 0)) (rt [])))) (consM (tupM (consM (rt (.str "label")) (consM (rt (.str "a")) (rt [])))) (rt [])))) (rt []))))))) fun t => iteM t ((fun ρ => bd (rt (.bl false)) fun d => rt (.ret d)) ρ) (nextS ρ))
  (seqS (setV 2 fun ρ => (bd (bd (vl ρ 9) fun d => bd (insM 1 d) fun d => bd (consM (vl ρ 6) (consM (tupM (consM (rt (.str "copy")) (consM (rt (.int 2)) (consM (rt (.int 0)) (rt []))))) (rt []))) fun ds => callM 3 m_Way_call (d :: ds)) fun d => bd (insM 0 d) fun d => noX (callM 1 m_Steps_rows [d])))
  (seqS (fun ρ => bd (orT (boolT (o2 neD (o2 ixD (vb ρ 2) (rt (.int 0))) (tupM (consM (rt .non) (consM (tupM (consM (tupM (consM (rt (.str "number")) (consM (rt (.int 2)) (rt [])))) (consM (tupM (consM (rt (.str "label")) (consM (rt (.str "a")) (rt [])))) (rt [])))) (rt [])))))) (orT (boolT (o2 neD (o2 ixD (vb ρ 2) (rt (.int 3))) (o2 ixD (vb ρ 2) (rt (.int 0))))) (boolT (o2 neD (o2 ixD (vb ρ 2) (rt (.int 2))) (bd (vl ρ 6) fun x => bd (rt (.int 1)) fun y => bd (insM 0 x) fun x => callM 2 m_Steps_getitem [x, y]))))) fun t => iteM t ((fun ρ => bd (rt (.bl false)) fun d => rt (.ret d)) ρ) (nextS ρ))
  (seqS (fun ρ => bd (boolT (o2 neD (bd (consM (vl ρ 6) (consM (tupM (consM (rt (.str "copy")) (consM (rt (.int 2)) (consM (rt (.int 0)) (rt []))))) (rt []))) fun ds => callM 2 m_origins ds) (bd (lstM (consM (tupM (consM (rt (.str "old")) (consM (rt (.int 2)) (rt [])))) (consM (tupM (consM (rt (.str "old")) (consM (rt (.int 0)) (rt [])))) (consM (tupM (consM (rt (.str "old")) (consM (rt (.int 1)) (rt [])))) (consM (tupM (consM (rt (.str "old")) (consM (rt (.int 2)) (rt [])))) (consM (tupM (consM (rt (.str "old")) (consM (rt (.int 3)) (rt [])))) (rt []))))))) fun ds => rt (.lst ds)))) fun t => iteM t ((fun ρ => bd (rt (.bl false)) fun d => rt (.ret d)) ρ) (nextS ρ))
  (seqS (setV 3 fun ρ => (tupM (consM (tupM (consM (rt (.str "b")) (consM (tupM (rt [])) (rt [])))) (consM (tupM (consM (rt .non) (consM (tupM (consM (tupM (consM (rt (.str "number")) (consM (rt (.int 0)) (rt [])))) (consM (tupM (consM (rt (.str "above")) (consM (rt (.int 1)) (rt [])))) (rt [])))) (rt [])))) (rt [])))))
  (seqS (setN 4 fun ρ => (bd (bd (tupM (consM (vl ρ 7) (consM (vl ρ 9) (rt [])))) seqM) fun ds => noX (lcM (fun d => bindD (.one 10) d (wipeE ρ [10])) (fun ρ => (rt true)) (fun ρ => (bd (bd (bd (vl ρ 10) fun d => bd (insM 1 d) fun d => bd (consM (vl ρ 6) (consM (tupM (consM (rt (.str "join")) (consM (vl ρ 3) (rt [])))) (rt []))) fun ds => callM 3 m_Way_call (d :: ds)) fun d => bd (insM 0 d) fun d => noX (callM 1 m_Steps_rows [d])) fun x => bd (bd (rt (.int 4)) asI) fun i => bd (rt none) fun j => sliceT x i j)) ds)))
  (seqS (fun ρ => bd (orT (boolT (o2 neD (vb ρ 4) (bd (lstM (consM (vl ρ 3) (consM (tupM (consM (tupM (consM (rt (.str "b")) (consM (tupM (rt [])) (rt [])))) (consM (tupM (consM (rt .non) (consM (tupM (consM (tupM (consM (rt (.str "number")) (consM (rt (.int 4)) (rt [])))) (consM (tupM (consM (rt (.str "above")) (consM (rt (.int 1)) (rt [])))) (rt [])))) (rt [])))) (rt [])))) (rt [])))) fun ds => rt (.lst ds)))) (boolT (o2 neD (bd (consM (vl ρ 7) (consM (vl ρ 6) (consM (tupM (consM (rt (.str "join")) (consM (vl ρ 3) (rt [])))) (rt [])))) fun ds => callM 3 m_astray ds) (bd (lstM (consM (tupM (consM (rt (.int 1)) (consM (rt (.int 1)) (rt [])))) (consM (tupM (consM (rt (.int 5)) (consM (rt (.int 0)) (rt [])))) (rt [])))) fun ds => rt (.lst ds))))) fun t => iteM t ((fun ρ => bd (rt (.bl false)) fun d => rt (.ret d)) ρ) (nextS ρ))
  (seqS (setV 5 fun ρ => (bd (consM (tupM (consM (rt .non) (consM (tupM (consM (tupM (consM (rt (.str "number")) (consM (rt (.int 0)) (rt [])))) (rt []))) (rt [])))) (consM (tupM (consM (rt .non) (consM (tupM (rt [])) (rt [])))) (rt []))) fun ds => bd (opt (if ds.length ≤ LIM then some () else none)) fun _ => noX (m_Steps_of [.cls 0, .tup ds])))
  (fun ρ => bd (andV (o2 eqD (o2 ixD (bd (bd (vl ρ 9) fun d => bd (insM 1 d) fun d => bd (consM (vl ρ 5) (consM (tupM (consM (rt (.str "copy")) (consM (rt (.int 0)) (consM (rt (.int 1)) (rt []))))) (rt []))) fun ds => callM 3 m_Way_call (d :: ds)) fun d => bd (insM 0 d) fun d => noX (callM 1 m_Steps_rows [d])) (rt (.int 1))) (bd (vl ρ 5) fun x => bd (rt (.int 0)) fun y => bd (insM 0 x) fun x => callM 2 m_Steps_getitem [x, y])) (o2 eqD (o2 ixD (bd (bd (vl ρ 9) fun d => bd (insM 1 d) fun d => bd (consM (vl ρ 5) (consM (tupM (consM (rt (.str "copy")) (consM (rt (.int 0)) (consM (rt (.int 0)) (rt []))))) (rt []))) fun ds => callM 3 m_Way_call (d :: ds)) fun d => bd (insM 0 d) fun d => noX (callM 1 m_Steps_rows [d])) (rt (.int 0))) (tupM (consM (rt .non) (consM (tupM (consM (tupM (consM (rt (.str "number")) (consM (rt (.int 1)) (rt [])))) (rt []))) (rt [])))))) fun d => rt (.ret d)))))))))))))))))))
def m__law_edits_right : List D → M D := fnM 12 b__law_edits_right
def b_are_words : Sm.Env → M Out :=
  (seqS (fun ρ => bd (orT (notT (boolT (c1 isiD (consM (vb ρ 0) (consM (rt (.ty "tuple")) (rt [])))))) (notT (boolT (c1 allD (consM (bd (bd (bd (vl ρ 0) seqM) fun ds => noX (lcM (fun d => bindD (.one 2) d (wipeE ρ [2])) (fun ρ => (rt true)) (fun ρ => (andV (c1 isiD (consM (vb ρ 2) (consM (rt (.ty "str")) (rt [])))) (o2 (inD false) (vb ρ 2) (rt (.tup (ALL_WORDS_L.map D.str)))))) ds)) fun ds => rt (.lst ds)) (rt [])))))) fun t => iteM t ((fun ρ => bd (rt (.bl false)) fun d => rt (.ret d)) ρ) (nextS ρ))
  (seqS (setN 1 fun ρ => (bd (bd (vl ρ 0) seqM) fun ds => noX (lcM (fun d => bindD (.one 2) d (wipeE ρ [2])) (fun ρ => (rt true)) (fun ρ => (kidxM ALL_WORDS_L (vl ρ 2))) ds)))
  (fun ρ => (fun ρ => bd (c1 allD (consM (bd (bd (bd (vl ρ 1) fun x => bd (bd (bd (vb ρ 1) fun x => bd (bd (rt (.int 1)) asI) fun i => bd (rt none) fun j => sliceL x i j) fun ds => rt (.lst ds)) fun y => zipM x y) fun ds => noX (lcM (fun d => bindD (.tup [2, 3]) d (wipeE ρ [2, 3])) (fun ρ => (rt true)) (fun ρ => (o2 ltI (vb ρ 2) (vb ρ 3))) ds)) fun ds => rt (.lst ds)) (rt []))) fun d => rt (.ret d)) (frzS [1] ρ))))
def m_are_words : List D → M D := fnM 4 b_are_words
def b_Plan_init : Sm.Env → M Out :=
  (seqS (fun ρ => bd (notT (boolT (c1 (isoD 8) (consM (vb ρ 1) (consM (rt (.cls 1)) (rt [])))))) fun t => iteM t ((fun _ => stk) ρ) (nextS ρ))
  (seqS (fun ρ => bd (notT (boolT (bd (consM (vl ρ 2) (rt [])) fun ds => callM 1 m_are_words ds))) fun t => iteM t ((fun _ => stk) ρ) (nextS ρ))
  (seqS (fun ρ => bd (notT (boolT (bd (consM (vl ρ 3) (consM (rt (.int 1)) (consM (rt (.int 5)) (rt [])))) fun ds => callM 3 m_is_number ds))) fun t => iteM t ((fun _ => stk) ρ) (nextS ρ))
  (seqS (fun ρ => bd (vl ρ 1) fun v => selfM 2 1 ρ v)
  (seqS (fun ρ => bd (vl ρ 2) fun v => selfM 2 2 ρ v)
  (fun ρ => bd (vl ρ 3) fun v => selfM 2 0 ρ v))))))
def m_Plan_init : List D → M D := initM 4 3 2 b_Plan_init
def b_check_plan : Sm.Env → M Out :=
  (fun ρ => bd (notT (boolT (c1 (isoD 8) (consM (vb ρ 0) (consM (rt (.cls 2)) (rt [])))))) fun t => iteM t ((fun _ => stk) ρ) (nextS ρ))
def m_check_plan : List D → M D := fnM 1 b_check_plan
def b_Steps_len : Sm.Env → M Out :=
  (fun ρ => bd (c1 lenD (consM (bd (vl ρ 0) (slotM 0 0)) (rt []))) fun d => rt (.ret d))
def m_Steps_len : List D → M D := fnM 1 b_Steps_len
def b_Plan_most : Sm.Env → M Out :=
  (fun ρ => bd (bd (vl ρ 0) (slotM 2 0)) fun d => rt (.ret d))
def m_Plan_most : List D → M D := fnM 1 b_Plan_most
def b_check_for : Sm.Env → M Out :=
  (seqS (fun ρ => bd (bd (consM (vl ρ 0) (rt [])) fun ds => callM 1 m_check_plan ds) fun _ => rt (.nx ρ))
  (seqS (fun ρ => bd (bd (consM (vl ρ 1) (rt [])) fun ds => callM 1 m_check_steps ds) fun _ => rt (.nx ρ))
  (fun ρ => bd (boolT (o2 gtI (bd (vl ρ 1) fun d => bd (insM 0 d) fun d => bd (noX (callM 1 m_Steps_len [d])) lenI) (bd (vl ρ 0) fun d => bd (insM 2 d) fun d => noX (callM 1 m_Plan_most [d])))) fun t => iteM t ((fun _ => stk) ρ) (nextS ρ))))
def m_check_for : List D → M D := fnM 2 b_check_for
def b_Plan_words : Sm.Env → M Out :=
  (fun ρ => bd (bd (vl ρ 0) (slotM 2 2)) fun d => rt (.ret d))
def m_Plan_words : List D → M D := fnM 1 b_Plan_words
def b_is_free : Sm.Env → M Out :=
  (fun ρ => bd (notV (c1 anyD (consM (bd (bd (bd (bd (consM (vl ρ 0) (rt [])) fun ds => callM 1 m_all_spots ds) seqM) fun ds => noX (lcM (fun d => bindD (.one 2) d (wipeE ρ [2])) (fun ρ => (rt true)) (fun ρ => (andV (o2 neD (o2 ixD (vb ρ 2) (rt (.int 0))) (vb ρ 1)) (o2 eqD (bd (consM (vl ρ 0) (consM (vl ρ 2) (rt []))) fun ds => callM 2 m_meant_at ds) (vb ρ 1)))) ds)) fun ds => rt (.lst ds)) (rt [])))) fun d => rt (.ret d))
def m_is_free : List D → M D := fnM 3 b_is_free
def b_is_allowed : Sm.Env → M Out :=
  (seqS (fun ρ => bd (orT (notT (boolT (bd (consM (vl ρ 1) (consM (vl ρ 2) (rt []))) fun ds => callM 2 m_is_edit ds))) (orT (boolT (o2 eqD (o2 ixD (vb ρ 2) (rt (.int 0))) (rt (.str "join")))) (andT (boolT (o2 (inD false) (o2 ixD (vb ρ 2) (rt (.int 0))) (tupM (consM (rt (.str "put")) (consM (rt (.str "copy")) (rt [])))))) (boolT (o2 geI (c1 lenD (consM (vb ρ 1) (rt []))) (bd (vl ρ 0) fun d => bd (insM 2 d) fun d => noX (callM 1 m_Plan_most [d]))))))) fun t => iteM t ((fun ρ => bd (rt (.bl false)) fun d => rt (.ret d)) ρ) (nextS ρ))
  (seqS (fun ρ => bd (boolT (o2 (inD false) (o2 ixD (vb ρ 2) (rt (.int 0))) (bd (vl ρ 0) fun d => bd (insM 2 d) fun d => noX (callM 1 m_Plan_words [d])))) fun t => iteM t ((fun ρ => bd (rt (.bl true)) fun d => rt (.ret d)) ρ) (nextS ρ))
  (seqS (fun ρ => bd (boolT (o2 eqD (o2 ixD (vb ρ 2) (rt (.int 0))) (rt (.str "put")))) fun t => iteM t ((fun ρ => bd (andV (o2 (inD false) (rt (.str "append")) (bd (vl ρ 0) fun d => bd (insM 2 d) fun d => noX (callM 1 m_Plan_words [d]))) (o2 eqD (o2 ixD (vb ρ 2) (rt (.int 1))) (c1 lenD (consM (vb ρ 1) (rt []))))) fun d => rt (.ret d)) ρ) (nextS ρ))
  (fun ρ => bd (andV (o2 eqD (o2 ixD (vb ρ 2) (rt (.int 0))) (rt (.str "out"))) (andV (o2 (inD false) (rt (.str "tidy")) (bd (vl ρ 0) fun d => bd (insM 2 d) fun d => noX (callM 1 m_Plan_words [d]))) (bd (consM (vl ρ 1) (consM (o2 ixD (vb ρ 2) (rt (.int 1))) (rt []))) fun ds => callM 2 m_is_free ds))) fun d => rt (.ret d)))))
def m_is_allowed : List D → M D := fnM 3 b_is_allowed
def b_all_allowed : Sm.Env → M Out :=
  (seqS (setV 2 fun ρ => (c1 lenD (consM (vb ρ 1) (rt []))))
  (seqS (setN 3 fun ρ => (bd (range1M (consM (vl ρ 2) (rt []))) fun ds => noX (few ds (fitM (lc2M (fun d => bindD (.one 4) d (wipeE ρ [4, 5])) (fun ρ => (rt true)) (fun ρ => (range1M (consM (o2 addA (vb ρ 2) (rt (.int 1))) (rt [])))) (fun ρ d => bindD (.one 5) d (wipeE ρ [5])) (fun ρ => (rt true)) (fun ρ => (tupM (consM (rt (.str "copy")) (consM (vl ρ 4) (consM (vl ρ 5) (rt [])))))) ds)))))
  (seqS (setN 3 fun ρ => (lstM (appM (bd (vb ρ 3) starM) (appM (bd (bd (bd (range1M (consM (vl ρ 2) (rt []))) fun ds => noX (few ds (fitM (lc2M (fun d => bindD (.one 4) d (wipeE ρ [4, 5])) (fun ρ => (rt true)) (fun ρ => (range1M (consM (vl ρ 2) (rt [])))) (fun ρ d => bindD (.one 5) d (wipeE ρ [5])) (fun ρ => (rt true)) (fun ρ => (tupM (consM (rt (.str "move")) (consM (vl ρ 4) (consM (vl ρ 5) (rt [])))))) ds)))) fun ds => rt (.lst ds)) starM) (rt [])))))
  (seqS (setN 3 fun ρ => (lstM (appM (bd (vb ρ 3) starM) (appM (bd (bd (bd (range1M (consM (vl ρ 2) (rt []))) fun ds => noX (lcM (fun d => bindD (.one 4) d (wipeE ρ [4])) (fun ρ => (rt true)) (fun ρ => (tupM (consM (rt (.str "out")) (consM (vl ρ 4) (rt []))))) ds)) fun ds => rt (.lst ds)) starM) (appM (bd (bd (bd (range1M (consM (o2 addA (vb ρ 2) (rt (.int 1))) (rt []))) fun ds => noX (lcM (fun d => bindD (.one 4) d (wipeE ρ [4])) (fun ρ => (rt true)) (fun ρ => (tupM (consM (rt (.str "put")) (consM (vl ρ 4) (rt []))))) ds)) fun ds => rt (.lst ds)) starM) (rt []))))))
  (fun ρ => bd (bd (bd (bd (vb ρ 3) ownM) fun ds => noX (lcM (fun d => bindD (.one 6) d (wipeE ρ [6])) (fun ρ => (boolT (bd (consM (vl ρ 0) (consM (vl ρ 1) (consM (vl ρ 6) (rt [])))) fun ds => callM 3 m_is_allowed ds))) (fun ρ => (vl ρ 6)) ds)) fun ds => rt (.lst ds)) fun d => rt (.ret d))))))
def m_all_allowed : List D → M D := fnM 7 b_all_allowed
def b_allowed : Sm.Env → M Out :=
  (seqS (fun ρ => bd (bd (consM (vl ρ 0) (consM (vl ρ 1) (rt []))) fun ds => callM 2 m_check_for ds) fun _ => rt (.nx ρ))
  (fun ρ => bd (bd (consM (vl ρ 0) (consM (bd (vl ρ 1) fun d => bd (insM 0 d) fun d => noX (callM 1 m_Steps_rows [d])) (rt []))) fun ds => callM 2 m_all_allowed ds) fun d => rt (.ret d)))
def m_allowed : List D → M D := fnM 2 b_allowed
def b_Sure_init : Sm.Env → M Out :=
  (fun ρ => bd (bd (c1N listD (consM (vb ρ 1) (rt []))) fun ds => rt (.lst ds)) fun v => selfM 3 0 ρ v)
def m_Sure_init : List D → M D := initM 2 1 3 b_Sure_init
def b_check_whole : Sm.Env → M Out :=
  (seqS (fun ρ => bd (bd (consM (vl ρ 0) (consM (vl ρ 1) (rt []))) fun ds => callM 2 m_check_for ds) fun _ => rt (.nx ρ))
  (fun ρ => bd (notT (boolT (bd (vl ρ 1) fun d => bd (insM 0 d) fun d => callM 1 m_Steps_is_whole [d]))) fun t => iteM t ((fun _ => stk) ρ) (nextS ρ)))
def m_check_whole : List D → M D := fnM 2 b_check_whole
def b_Plan_way : Sm.Env → M Out :=
  (fun ρ => bd (bd (vl ρ 0) (slotM 2 1)) fun d => rt (.ret d))
def m_Plan_way : List D → M D := fnM 1 b_Plan_way
def b_holds : Sm.Env → M Out :=
  (seqS (fun ρ => bd (orT (notT (boolT (bd (consM (vl ρ 1) (rt [])) fun ds => callM 1 m_are_rows ds))) (orT (boolT (o2 gtI (c1 lenD (consM (vb ρ 1) (rt []))) (bd (vl ρ 0) fun d => bd (insM 2 d) fun d => noX (callM 1 m_Plan_most [d])))) (notT (boolT (bd (consM (vl ρ 1) (rt [])) fun ds => callM 1 m_are_whole ds))))) fun t => iteM t ((fun ρ => bd (rt (.bl false)) fun d => rt (.ret d)) ρ) (nextS ρ))
  (seqS (fun ρ => bd (bd (bd (consM (vl ρ 0) (consM (vl ρ 1) (rt []))) fun ds => callM 2 m_all_allowed ds) seqM) fun ds => forM (.one 3) (seqS (asgT (.tup [4, 5]) fun ρ => (bd (consM (bd (bd (vl ρ 0) fun d => bd (insM 2 d) fun d => noX (callM 1 m_Plan_way [d])) fun d => bd (insM 1 d) fun d => noX (callM 1 m_Way_words [d])) (consM (vl ρ 1) (consM (vl ρ 3) (rt [])))) fun ds => callM 3 m_edited ds))
  (fun ρ => bd (orT (boolT (o2 neD (vb ρ 5) (bd (lstM (rt [])) fun ds => rt (.lst ds)))) (boolT (o2 (inT true) (vb ρ 4) (vb ρ 2)))) fun t => iteM t ((fun ρ => bd (rt (.bl false)) fun d => rt (.ret d)) ρ) (nextS ρ))) ds ρ)
  (fun ρ => bd (rt (.bl true)) fun d => rt (.ret d))))
def m_holds : List D → M D := fnM 6 b_holds
def b_Sure_shows : Sm.Env → M Out :=
  (seqS (fun ρ => bd (bd (consM (vl ρ 1) (consM (vl ρ 2) (rt []))) fun ds => callM 2 m_check_whole ds) fun _ => rt (.nx ρ))
  (seqS (setV 3 fun ρ => (bd (bd (bd (vl ρ 0) (slotM 3 0)) seqM) fun ds => bd (noX (dcM (fun d => bindD (.one 4) d (wipeE ρ [4])) (fun ρ => (rt true)) (fun ρ => (vl ρ 4)) (fun ρ => (rt (.bl true))) ds [])) newDcM))
  (fun ρ => bd (andV (o2 (inT false) (bd (vl ρ 2) fun d => bd (insM 0 d) fun d => noX (callM 1 m_Steps_rows [d])) (vb ρ 3)) (c1 allD (consM (bd (bd (bd (bd (vl ρ 0) (slotM 3 0)) seqM) fun ds => noX (lcM (fun d => bindD (.one 4) d (wipeE ρ [4])) (fun ρ => (rt true)) (fun ρ => (bd (consM (vl ρ 1) (consM (vl ρ 4) (consM (vl ρ 3) (rt [])))) fun ds => callM 3 m_holds ds)) ds)) fun ds => rt (.lst ds)) (rt [])))) fun d => rt (.ret d))))
def m_Sure_shows : List D → M D := fnM 5 b_Sure_shows
def b_Web_init : Sm.Env → M Out :=
  (seqS (fun ρ => bd (bd (vl ρ 2) fun k => bd (rt .non) fun v => newT1 k v) fun v => selfM 5 1 ρ v)
  (seqS (fun ρ => bd (rt .non) fun v => selfM 5 0 ρ v)
  (seqS (parS [3, 4] 2 fun ρ => (bd (lstM (consM (vl ρ 2) (rt []))) fun ds => bd (bd (rt (.int 0)) fun d => bd (rt []) fun ss => rt (.val d :: ss)) fun ss => rt (.own ds :: ss)))
  (fun ρ => whM (fun ρ => (boolT (o2 ltI (vb ρ 4) (c1 lenD (consM (vb ρ 3) (rt [])))))) (seqS (setV 5 fun ρ => (o2 ixD (vb ρ 3) (vb ρ 4)))
  (seqS (augM 4 (fun i k => i + k) fun ρ => (rt (.int 1)))
  (fun ρ => bd (bd (bd (consM (vl ρ 1) (consM (vl ρ 5) (rt []))) fun ds => callM 2 m_all_allowed ds) seqM) fun ds => forM (.one 6) (seqS (asgT (.tup [7, 8]) fun ρ => (bd (consM (bd (bd (vl ρ 1) fun d => bd (insM 2 d) fun d => noX (callM 1 m_Plan_way [d])) fun d => bd (insM 1 d) fun d => noX (callM 1 m_Way_words [d])) (consM (vl ρ 5) (consM (vl ρ 6) (rt [])))) fun ds => callM 3 m_edited ds))
  (fun ρ => bd (boolT (o2 neD (vb ρ 8) (bd (lstM (rt [])) fun ds => rt (.lst ds)))) fun t => iteM t ((fun ρ => bd (bd (boolT (bd (selfG 5 0 ρ) fun x => op1 (isN false) x)) fun t => iteM t (tupM (consM (vl ρ 5) (consM (vl ρ 6) (rt [])))) (selfG 5 0 ρ)) fun v => selfM 5 0 ρ v) ρ) ((fun ρ => bd (boolT (o2 (inT true) (vb ρ 7) (selfG 5 1 ρ))) fun t => iteM t ((seqS (fun ρ => bd (boolT (o2 eqD (c1 lenX (consM (selfG 5 1 ρ) (rt []))) (rt (.int 400)))) fun t => iteM t ((fun _ => thr 9 []) ρ) (nextS ρ))
  (seqS (fun ρ => bd (tupM (consM (vl ρ 5) (consM (vl ρ 6) (rt [])))) fun v => bd (selfG 5 1 ρ) fun x => bd (vl ρ 7) fun y => putT x y v ρ)
  (appS 3 fun ρ => (vl ρ 7)))) ρ) (nextS ρ)) ρ))) ds ρ))) 402 ρ))))
def m_Web_init : List D → M D := initMR 9 2 5 b_Web_init
def b_Astray_init : Sm.Env → M Out :=
  (fun ρ => bd (bd (c1N listD (consM (vb ρ 1) (rt []))) fun ds => rt (.lst ds)) fun v => selfM 4 0 ρ v)
def m_Astray_init : List D → M D := initM 2 1 4 b_Astray_init
def b_Web_edits_lost : Sm.Env → M Out :=
  (seqS (asgT (.tup [2, 3]) fun ρ => (bd (vl ρ 0) (getR 5 0)))
  (seqS (setN 1 fun ρ => (lstM (consM (vl ρ 3) (rt []))))
  (seqS (fun ρ => whM (fun ρ => (boolT (bd (o2 getT (bd (vl ρ 0) (getR 5 1)) (vb ρ 2)) fun x => op1 (isN true) x))) (seqS (asgT (.tup [2, 3]) fun ρ => (o2 getT (bd (vl ρ 0) (getR 5 1)) (vb ρ 2)))
  (appS 1 fun ρ => (vl ρ 3))) 402 ρ)
  (fun ρ => bd (bd (bd (vb ρ 1) revL) fun ds => rt (.lst ds)) fun d => rt (.ret d)))))
def m_Web_edits_lost : List D → M D := fnM 4 b_Web_edits_lost
def b_answer_for : Sm.Env → M Out :=
  (seqS (setV 2 fun ρ => (bd (consM (vl ρ 0) (consM (vl ρ 1) (rt []))) fun ds => callM 2 m_Web_init ds))
  (fun ρ => bd (bd (boolT (bd (bd (vl ρ 2) (getR 5 0)) fun x => op1 (isN false) x)) fun t => iteM t (bd (consM (bd (c1N listX2 (consM (bd (vl ρ 2) (getR 5 1)) (rt []))) fun ds => rt (.lst ds)) (rt [])) fun ds => callM 1 m_Sure_init ds) (bd (consM (bd (vl ρ 2) fun d => bd (refM 5 d) fun d => callM 1 m_Web_edits_lost [d]) (rt [])) fun ds => callM 1 m_Astray_init ds)) fun d => rt (.ret d)))
def m_answer_for : List D → M D := fnM 3 b_answer_for
def b_sure : Sm.Env → M Out :=
  (seqS (fun ρ => bd (bd (consM (vl ρ 0) (consM (vl ρ 1) (rt []))) fun ds => callM 2 m_check_whole ds) fun _ => rt (.nx ρ))
  (fun ρ => bd (bd (consM (vl ρ 0) (consM (bd (vl ρ 1) fun d => bd (insM 0 d) fun d => noX (callM 1 m_Steps_rows [d])) (rt []))) fun ds => callM 2 m_answer_for ds) fun d => rt (.ret d)))
def m_sure : List D → M D := fnM 2 b_sure
def b_soonest : Sm.Env → M Out :=
  (seqS (setV 2 fun ρ => (bd (consM (vl ρ 0) (consM (vl ρ 1) (rt []))) fun ds => callM 2 m_sure ds))
  (fun ρ => bd (bd (boolT (c1 (isoD 8) (consM (vb ρ 2) (consM (rt (.cls 4)) (rt []))))) fun t => iteM t (c1 lenD (consM (bd (vl ρ 2) (slotM 4 0)) (rt []))) (rt .non)) fun d => rt (.ret d)))
def m_soonest : List D → M D := fnM 3 b_soonest
def b_Astray_shows : Sm.Env → M Out :=
  (seqS (fun ρ => bd (bd (consM (vl ρ 1) (consM (vl ρ 2) (rt []))) fun ds => callM 2 m_check_whole ds) fun _ => rt (.nx ρ))
  (seqS (setV 3 fun ρ => (bd (vl ρ 2) fun d => bd (insM 0 d) fun d => noX (callM 1 m_Steps_rows [d])))
  (seqS (fun ρ => bd (bd (bd (vl ρ 0) (slotM 4 0)) fun d => bd (seqM d) fun ds => rt (enumL 0 ds)) fun ds => forM (.tup [4, 5]) (seqS (fun ρ => bd (notT (boolT (bd (consM (vl ρ 1) (consM (vl ρ 3) (consM (vl ρ 5) (rt [])))) fun ds => callM 3 m_is_allowed ds))) fun t => iteM t ((fun ρ => bd (rt (.bl false)) fun d => rt (.ret d)) ρ) (nextS ρ))
  (seqS (asgT (.tup [3, 6]) fun ρ => (bd (consM (bd (bd (vl ρ 1) fun d => bd (insM 2 d) fun d => noX (callM 1 m_Plan_way [d])) fun d => bd (insM 1 d) fun d => noX (callM 1 m_Way_words [d])) (consM (vl ρ 3) (consM (vl ρ 5) (rt [])))) fun ds => callM 3 m_edited ds))
  (fun ρ => bd (boolT (o2 neD (vb ρ 6) (bd (lstM (rt [])) fun ds => rt (.lst ds)))) fun t => iteM t ((fun ρ => bd (o2 eqD (vb ρ 4) (o2 subI (c1 lenD (consM (bd (vl ρ 0) (slotM 4 0)) (rt []))) (rt (.int 1)))) fun d => rt (.ret d)) ρ) (nextS ρ)))) ds ρ)
  (fun ρ => bd (rt (.bl false)) fun d => rt (.ret d)))))
def m_Astray_shows : List D → M D := fnM 7 b_Astray_shows
def b__law_sure_right : Sm.Env → M Out :=
  (seqS (setV 0 fun ρ => (bd (consM (tupM (consM (rt .non) (consM (tupM (rt [])) (rt [])))) (consM (tupM (consM (rt .non) (consM (tupM (consM (tupM (consM (rt (.str "above")) (consM (rt (.int 1)) (rt [])))) (rt []))) (rt [])))) (rt []))) fun ds => bd (opt (if ds.length ≤ LIM then some () else none)) fun _ => noX (m_Steps_of [.cls 0, .tup ds])))
  (seqS (parS [3, 4, 5] 3 fun ρ => (bd (bd (consM (bd (rt []) fun ds => bd (opt (if ds.length = 0 then some () else none)) fun _ => callM 4 m_Way_init (kd_Way_init_0 ds)) (consM (tupM (consM (rt (.str "append")) (rt []))) (rt []))) fun as => callM 3 m_Plan_init (as ++ [.int 4])) fun d => bd (bd (bd (consM (bd (consM (rt (.str "follow")) (rt [])) fun ds => callM 1 m_Way_every ds) (consM (tupM (consM (rt (.str "move")) (rt []))) (rt []))) fun as => callM 3 m_Plan_init (as ++ [.int 4])) fun d => bd (bd (bd (consM (bd (rt []) fun ds => bd (opt (if ds.length = 0 then some () else none)) fun _ => callM 4 m_Way_init (kd_Way_init_0 ds)) (consM (tupM (consM (rt (.str "put")) (rt []))) (rt []))) fun as => callM 3 m_Plan_init (as ++ [.int 4])) fun d => bd (rt []) fun ss => rt (.val d :: ss)) fun ss => rt (.val d :: ss)) fun ss => rt (.val d :: ss)))
  (seqS (fun ρ => bd (orT (boolT (o2 neD (bd (consM (vl ρ 3) (consM (vl ρ 0) (rt []))) fun ds => callM 2 m_allowed ds) (bd (lstM (consM (tupM (consM (rt (.str "put")) (consM (rt (.int 2)) (rt [])))) (rt []))) fun ds => rt (.lst ds)))) (boolT (o2 neD (bd (consM (bd (consM (bd (rt []) fun ds => bd (opt (if ds.length = 0 then some () else none)) fun _ => callM 4 m_Way_init (kd_Way_init_0 ds)) (consM (tupM (consM (rt (.str "tidy")) (rt []))) (rt []))) fun as => callM 3 m_Plan_init (as ++ [.int 4])) (consM (vl ρ 0) (rt []))) fun ds => callM 2 m_allowed ds) (bd (lstM (consM (tupM (consM (rt (.str "out")) (consM (rt (.int 1)) (rt [])))) (rt []))) fun ds => rt (.lst ds))))) fun t => iteM t ((fun ρ => bd (rt (.bl false)) fun d => rt (.ret d)) ρ) (nextS ρ))
  (seqS (fun ρ => bd (boolT (o2 neD (bd (consM (bd (consM (bd (rt []) fun ds => bd (opt (if ds.length = 0 then some () else none)) fun _ => callM 4 m_Way_init (kd_Way_init_0 ds)) (consM (tupM (consM (rt (.str "out")) (consM (rt (.str "tidy")) (rt [])))) (rt []))) fun as => bd (consM (rt (.int 2)) (rt [])) fun zs => bd (opt (if as.length = 2 ∧ zs.length = 1 then some () else none)) fun _ => callM 3 m_Plan_init (as ++ zs)) (consM (vl ρ 0) (rt []))) fun ds => callM 2 m_allowed ds) (bd (lstM (consM (tupM (consM (rt (.str "out")) (consM (rt (.int 0)) (rt [])))) (consM (tupM (consM (rt (.str "out")) (consM (rt (.int 1)) (rt [])))) (rt [])))) fun ds => rt (.lst ds)))) fun t => iteM t ((fun ρ => bd (rt (.bl false)) fun d => rt (.ret d)) ρ) (nextS ρ))
  (seqS (setN 1 fun ρ => (lstM (consM (bd (vl ρ 0) fun d => bd (insM 0 d) fun d => noX (callM 1 m_Steps_rows [d])) (consM (o2 addA (bd (vl ρ 0) fun d => bd (insM 0 d) fun d => noX (callM 1 m_Steps_rows [d])) (tupM (consM (tupM (consM (rt .non) (consM (tupM (rt [])) (rt [])))) (rt [])))) (consM (o2 addA (bd (vl ρ 0) fun d => bd (insM 0 d) fun d => noX (callM 1 m_Steps_rows [d])) (o2 mulA (tupM (consM (tupM (consM (rt .non) (consM (tupM (rt [])) (rt [])))) (rt []))) (rt (.int 2)))) (rt []))))))
  (seqS (fun ρ => (fun ρ => bd (orT (notT (boolT (bd (bd (consM (vl ρ 1) (rt [])) fun ds => callM 1 m_Sure_init ds) fun d => bd (insM 3 d) fun d => bd (consM (vl ρ 3) (consM (vl ρ 0) (rt []))) fun ds => callM 3 m_Sure_shows (d :: ds)))) (orT (boolT (bd (bd (consM (bd (bd (vb ρ 1) fun x => bd (rt none) fun i => bd (bd (rt (.int 2)) asI) fun j => sliceL x i j) fun ds => rt (.lst ds)) (rt [])) fun ds => callM 1 m_Sure_init ds) fun d => bd (insM 3 d) fun d => bd (consM (vl ρ 3) (consM (vl ρ 0) (rt []))) fun ds => callM 3 m_Sure_shows (d :: ds))) (boolT (bd (bd (consM (vl ρ 3) (consM (vl ρ 0) (rt []))) fun ds => callM 2 m_soonest ds) fun x => op1 (isN true) x)))) fun t => iteM t ((fun ρ => bd (rt (.bl false)) fun d => rt (.ret d)) ρ) (nextS ρ)) (frzS [1] ρ))
  (seqS (fun ρ => bd (boolT (o2 neD (bd (lstM (consM (bd (consM (vl ρ 4) (consM (vl ρ 0) (rt []))) fun ds => callM 2 m_soonest ds) (consM (bd (consM (vl ρ 5) (consM (vl ρ 0) (rt []))) fun ds => callM 2 m_soonest ds) (consM (bd (consM (bd (consM (bd (consM (rt (.str "shift")) (rt [])) fun ds => callM 1 m_Way_every ds) (consM (tupM (consM (rt (.str "put")) (rt []))) (rt []))) fun as => callM 3 m_Plan_init (as ++ [.int 4])) (consM (vl ρ 0) (rt []))) fun ds => callM 2 m_soonest ds) (rt []))))) fun ds => rt (.lst ds)) (bd (lstM (consM (rt (.int 1)) (consM (rt (.int 1)) (consM (rt .non) (rt []))))) fun ds => rt (.lst ds)))) fun t => iteM t ((fun ρ => bd (rt (.bl false)) fun d => rt (.ret d)) ρ) (nextS ρ))
  (seqS (fun ρ => bd (orT (notT (boolT (bd (bd (consM (bd (lstM (consM (tupM (consM (rt (.str "move")) (consM (rt (.int 0)) (consM (rt (.int 1)) (rt []))))) (rt []))) fun ds => rt (.lst ds)) (rt [])) fun ds => callM 1 m_Astray_init ds) fun d => bd (insM 4 d) fun d => bd (consM (vl ρ 4) (consM (vl ρ 0) (rt []))) fun ds => callM 3 m_Astray_shows (d :: ds)))) (notT (boolT (bd (bd (consM (bd (lstM (consM (tupM (consM (rt (.str "put")) (consM (rt (.int 0)) (rt [])))) (consM (tupM (consM (rt (.str "put")) (consM (rt (.int 2)) (rt [])))) (rt [])))) fun ds => rt (.lst ds)) (rt [])) fun ds => callM 1 m_Astray_init ds) fun d => bd (insM 4 d) fun d => bd (consM (vl ρ 5) (consM (vl ρ 0) (rt []))) fun ds => callM 3 m_Astray_shows (d :: ds))))) fun t => iteM t ((fun ρ => bd (rt (.bl false)) fun d => rt (.ret d)) ρ) (nextS ρ))
  (seqS (fun ρ => bd (orT (boolT (bd (bd (consM (bd (lstM (consM (tupM (consM (rt (.str "put")) (consM (rt (.int 0)) (rt [])))) (rt []))) fun ds => rt (.lst ds)) (rt [])) fun ds => callM 1 m_Astray_init ds) fun d => bd (insM 4 d) fun d => bd (consM (vl ρ 5) (consM (vl ρ 0) (rt []))) fun ds => callM 3 m_Astray_shows (d :: ds))) (orT (boolT (bd (bd (consM (bd (lstM (consM (tupM (consM (rt (.str "put")) (consM (rt (.int 1)) (rt [])))) (consM (tupM (consM (rt (.str "put")) (consM (rt (.int 1)) (rt [])))) (rt [])))) fun ds => rt (.lst ds)) (rt [])) fun ds => callM 1 m_Astray_init ds) fun d => bd (insM 4 d) fun d => bd (consM (vl ρ 5) (consM (vl ρ 0) (rt []))) fun ds => callM 3 m_Astray_shows (d :: ds))) (boolT (bd (bd (consM (bd (lstM (consM (tupM (consM (rt (.str "out")) (consM (rt (.int 0)) (rt [])))) (rt []))) fun ds => rt (.lst ds)) (rt [])) fun ds => callM 1 m_Astray_init ds) fun d => bd (insM 4 d) fun d => bd (consM (vl ρ 5) (consM (vl ρ 0) (rt []))) fun ds => callM 3 m_Astray_shows (d :: ds))))) fun t => iteM t ((fun ρ => bd (rt (.bl false)) fun d => rt (.ret d)) ρ) (nextS ρ))
  (seqS (setV 2 fun ρ => (bd (consM (tupM (consM (rt .non) (consM (tupM (consM (tupM (consM (rt (.str "end")) (consM (rt (.int 0)) (rt [])))) (rt []))) (rt [])))) (consM (tupM (consM (rt .non) (consM (tupM (rt [])) (rt [])))) (rt []))) fun ds => bd (opt (if ds.length ≤ LIM then some () else none)) fun _ => noX (m_Steps_of [.cls 0, .tup ds])))
  (seqS (fun ρ => bd (orT (boolT (o2 neD (bd (consM (bd (consM (bd (rt []) fun ds => bd (opt (if ds.length = 0 then some () else none)) fun _ => callM 4 m_Way_init (kd_Way_init_0 ds)) (consM (tupM (consM (rt (.str "append")) (rt []))) (rt []))) fun as => callM 3 m_Plan_init (as ++ [.int 4])) (consM (vl ρ 2) (rt []))) fun ds => callM 2 m_soonest ds) (rt (.int 1)))) (boolT (bd (bd (consM (bd (consM (bd (consM (rt (.str "shift")) (rt [])) fun ds => bd (opt (if ds.length = 1 then some () else none)) fun _ => callM 4 m_Way_init (kd_Way_init_1 ds)) (consM (tupM (consM (rt (.str "append")) (rt []))) (rt []))) fun as => callM 3 m_Plan_init (as ++ [.int 4])) (consM (vl ρ 2) (rt []))) fun ds => callM 2 m_soonest ds) fun x => op1 (isN true) x))) fun t => iteM t ((fun ρ => bd (rt (.bl false)) fun d => rt (.ret d)) ρ) (nextS ρ))
  (fun ρ => bd (andV (o2 eqD (bd (consM (bd (consM (bd (consM (rt (.str "shift")) (rt [])) fun ds => bd (opt (if ds.length = 1 then some () else none)) fun _ => callM 4 m_Way_init (kd_Way_init_1 ds)) (consM (tupM (consM (rt (.str "append")) (consM (rt (.str "move")) (rt [])))) (rt []))) fun as => callM 3 m_Plan_init (as ++ [.int 4])) (consM (vl ρ 2) (rt []))) fun ds => callM 2 m_soonest ds) (rt (.int 1))) (c1 (isoD 8) (consM (bd (consM (bd (consM (bd (rt []) fun ds => bd (opt (if ds.length = 0 then some () else none)) fun _ => callM 4 m_Way_init (kd_Way_init_0 ds)) (consM (tupM (rt [])) (rt []))) fun as => callM 3 m_Plan_init (as ++ [.int 4])) (consM (vl ρ 2) (rt []))) fun ds => callM 2 m_sure ds) (consM (rt (.cls 3)) (rt []))))) fun d => rt (.ret d)))))))))))))
def m__law_sure_right : List D → M D := fnM 6 b__law_sure_right
def b_plain_spots : Sm.Env → M Out :=
  (fun ρ => bd (bd (bd (bd (bd (consM (vl ρ 0) (rt [])) fun ds => callM 1 m_all_spots ds) seqM) fun ds => noX (lcM (fun d => bindD (.one 1) d (wipeE ρ [1])) (fun ρ => (boolT (o2 neD (o2 ixD (o2 ixD (o2 ixD (o2 ixD (vb ρ 0) (o2 ixD (vb ρ 1) (rt (.int 0)))) (rt (.int 1))) (o2 ixD (vb ρ 1) (rt (.int 1)))) (rt (.int 0))) (rt (.str "label"))))) (fun ρ => (vl ρ 1)) ds)) fun ds => rt (.lst ds)) fun d => rt (.ret d))
def m_plain_spots : List D → M D := fnM 2 b_plain_spots
def b_check_few : Sm.Env → M Out :=
  (seqS (fun ρ => bd (bd (consM (vl ρ 0) (consM (vl ρ 1) (rt []))) fun ds => callM 2 m_check_whole ds) fun _ => rt (.nx ρ))
  (fun ρ => bd (boolT (o2 gtI (c1 lenD (consM (bd (consM (bd (vl ρ 1) fun d => bd (insM 0 d) fun d => noX (callM 1 m_Steps_rows [d])) (rt [])) fun ds => callM 1 m_plain_spots ds) (rt []))) (rt (.int 5)))) fun t => iteM t ((fun _ => thr 9 []) ρ) (nextS ρ)))
def m_check_few : List D → M D := fnM 2 b_check_few
def b_in_order : Sm.Env → M Out :=
  (seqS (setN 1 fun ρ => (lstM (rt [])))
  (seqS (fun ρ => bd (bd (vl ρ 0) seqM) fun ds => forM (.one 2) (seqS (setV 3 fun ρ => (c1 lenD (consM (vb ρ 1) (rt []))))
  (seqS (fun ρ => whM (fun ρ => (andT (boolT (o2 gtI (vb ρ 3) (rt (.int 0)))) (boolT (o2 ltN (tupM (consM (c1 lenD (consM (vb ρ 2) (rt []))) (consM (vl ρ 2) (rt [])))) (tupM (consM (c1 lenD (consM (o2 ixD (vb ρ 1) (o2 subI (vb ρ 3) (rt (.int 1)))) (rt []))) (consM (o2 ixD (vb ρ 1) (o2 subI (vb ρ 3) (rt (.int 1)))) (rt [])))))))) (augM 3 (fun i k => i - k) fun ρ => (rt (.int 1))) 70 ρ)
  (insS 1 fun ρ => (consM (vl ρ 3) (consM (vl ρ 2) (rt [])))))) ds ρ)
  (fun ρ => (fun ρ => bd (vl ρ 1) fun d => rt (.ret d)) (frzS [1] ρ))))
def m_in_order : List D → M D := fnM 4 b_in_order
def b_labels_for : Sm.Env → M Out :=
  (seqS (fun ρ => rt (.nx (ρ.set 2 (.ownD []))))
  (seqS (fun ρ => bd (bd (vl ρ 1) seqM) fun ds => forM (.one 3) (seqS (setV 4 fun ρ => (bd (consM (vl ρ 0) (consM (vl ρ 3) (rt []))) fun ds => callM 2 m_meant_at ds))
  (fun ρ => bd (andT (boolT (bd (o2 ixD (o2 ixD (vb ρ 0) (vb ρ 4)) (rt (.int 0))) fun x => op1 (isN false) x)) (boolT (inKM true 2 (fun ρ => (vl ρ 4)) ρ))) fun t => iteM t ((seqS (setN 5 fun ρ => (bd (bd (rt (.tup (LETTERS_L.map D.str))) seqM) fun ds => noX (lcM (fun d => bindD (.one 6) d (wipeE ρ [6])) (fun ρ => (andT (boolT (bd (bd (consM (vl ρ 0) (consM (vl ρ 6) (rt []))) fun ds => callM 2 m_first_with ds) fun x => op1 (isN false) x)) (boolT (ninVM 2 (fun ρ => (vl ρ 6)) ρ)))) (fun ρ => (vl ρ 6)) ds)))
  (seqS (fun ρ => bd (boolT (o2 eqD (vb ρ 5) (bd (lstM (rt [])) fun ds => rt (.lst ds)))) fun t => iteM t ((fun ρ => bd (rt .non) fun d => rt (.ret d)) ρ) (nextS ρ))
  (dsetS 2 (fun ρ => (o2 ixD (vb ρ 5) (rt (.int 0)))) (fun ρ => (vl ρ 4))))) ρ) ((fun ρ => bd (andT (boolT (bd (o2 ixD (o2 ixD (vb ρ 0) (vb ρ 4)) (rt (.int 0))) fun x => op1 (isN true) x)) (boolT (o2 neD (bd (consM (vl ρ 0) (consM (o2 ixD (o2 ixD (vb ρ 0) (vb ρ 4)) (rt (.int 0))) (rt []))) fun ds => callM 2 m_first_with ds) (vb ρ 4)))) fun t => iteM t ((fun ρ => bd (rt .non) fun d => rt (.ret d)) ρ) (nextS ρ)) ρ))) ds ρ)
  (fun ρ => (fun ρ => bd (vl ρ 2) fun d => rt (.ret d)) (frzDE 2 ρ))))
def m_labels_for : List D → M D := fnM 7 b_labels_for
def b_after_choice : Sm.Env → M Out :=
  (seqS (setN 3 fun ρ => (bd (bd (vl ρ 0) fun d => bd (seqM d) fun ds => rt (enumL 0 ds)) fun ds => noX (lcM (fun d => bindD (.tup [5, 6]) d (wipeE ρ [5, 6])) (fun ρ => (rt true)) (fun ρ => (bd (vl ρ 2) fun x => bd (dctV x) fun ks => bd (vl ρ 5) fun k => bd (o2 ixD (vb ρ 6) (rt (.int 0))) fun z => getK ks k z)) ds)))
  (seqS (setN 4 fun ρ => (lstM (rt [])))
  (seqS (fun ρ => bd (bd (vl ρ 0) fun d => bd (seqM d) fun ds => rt (enumL 0 ds)) fun ds => forM (.tup [5, 6]) (seqS (setN 7 fun ρ => (c1N listD (consM (o2 ixD (vb ρ 6) (rt (.int 1))) (rt []))))
  (seqS (fun ρ => bd (range1M (consM (c1 lenD (consM (vb ρ 7) (rt []))) (rt []))) fun ds => forM (.one 8) (fun ρ => bd (boolT (o2 (inD false) (tupM (consM (vl ρ 5) (consM (vl ρ 8) (rt [])))) (vb ρ 1))) fun t => iteM t ((setIx 7 (fun ρ => (tupM (consM (rt (.str "label")) (consM (o2 ixD (vb ρ 3) (bd (consM (vl ρ 0) (consM (tupM (consM (vl ρ 5) (consM (vl ρ 8) (rt [])))) (rt []))) fun ds => callM 2 m_meant_at ds)) (rt []))))) (fun ρ => (vl ρ 8))) ρ) (nextS ρ)) ds ρ)
  (appS 4 fun ρ => (tupM (consM (o2 ixD (vb ρ 3) (vb ρ 5)) (consM (c1 tupleD (consM (vb ρ 7) (rt []))) (rt []))))))) ds ρ)
  (fun ρ => bd (c1 tupleD (consM (vb ρ 4) (rt []))) fun d => rt (.ret d)))))
def m_after_choice : List D → M D := fnM 9 b_after_choice
def b_possible : Sm.Env → M Out :=
  (seqS (setN 1 fun ρ => (lstM (consM (tupM (rt [])) (rt []))))
  (seqS (fun ρ => bd (bd (bd (consM (vl ρ 0) (rt [])) fun ds => callM 1 m_plain_spots ds) seqM) fun ds => forM (.one 2) (setN 1 fun ρ => (lstM (appM (bd (vb ρ 1) starM) (appM (bd (bd (bd (bd (vb ρ 1) ownM) fun ds => noX (lcM (fun d => bindD (.one 4) d (wipeE ρ [4])) (fun ρ => (rt true)) (fun ρ => (tupM (appM (bd (vb ρ 4) starM) (consM (vl ρ 2) (rt []))))) ds)) fun ds => rt (.lst ds)) starM) (rt []))))) ds ρ)
  (seqS (setN 3 fun ρ => (lstM (rt [])))
  (seqS (fun ρ => (fun ρ => bd (bd (bd (consM (vl ρ 1) (rt [])) fun ds => callM 1 m_in_order ds) seqM) fun ds => forM (.one 4) (seqS (setV 5 fun ρ => (bd (consM (vl ρ 0) (consM (vl ρ 4) (rt []))) fun ds => callM 2 m_labels_for ds))
  (fun ρ => bd (boolT (bd (vb ρ 5) fun x => op1 (isN true) x)) fun t => iteM t ((appS 3 fun ρ => (tupM (consM (vl ρ 4) (consM (bd (consM (vl ρ 0) (consM (vl ρ 4) (consM (vl ρ 5) (rt [])))) fun ds => callM 3 m_after_choice ds) (rt []))))) ρ) (nextS ρ))) ds ρ) (frzS [1] ρ))
  (fun ρ => (fun ρ => bd (vl ρ 3) fun d => rt (.ret d)) (frzS [3] ρ))))))
def m_possible : List D → M D := fnM 6 b_possible
def b_Fewest_init : Sm.Env → M Out :=
  (seqS (fun ρ => bd (vl ρ 1) fun v => selfM 6 0 ρ v)
  (seqS (fun ρ => bd (vl ρ 2) fun v => selfM 6 2 ρ v)
  (fun ρ => bd (bd (bd (bd (vl ρ 3) lockM) itemsF) fun ds => bd (noX (dcM (fun d => bindD (.tup [4, 5]) d (wipeE ρ [4, 5])) (fun ρ => (rt true)) (fun ρ => (vl ρ 4)) (fun ρ => (vl ρ 5)) ds [])) newDcM) fun v => selfM 6 1 ρ v)))
def m_Fewest_init : List D → M D := initM 6 3 6 b_Fewest_init
def b_Hopeless_init : Sm.Env → M Out :=
  (fun ρ => bd (bd (bd (bd (vl ρ 1) lockM) itemsF) fun ds => bd (noX (dcM (fun d => bindD (.tup [2, 3]) d (wipeE ρ [2, 3])) (fun ρ => (rt true)) (fun ρ => (vl ρ 2)) (fun ρ => (vl ρ 3)) ds [])) newDcM) fun v => selfM 7 0 ρ v)
def m_Hopeless_init : List D → M D := initM 4 1 7 b_Hopeless_init
def b_fewest : Sm.Env → M Out :=
  (seqS (fun ρ => bd (bd (consM (vl ρ 0) (consM (vl ρ 1) (rt []))) fun ds => callM 2 m_check_few ds) fun _ => rt (.nx ρ))
  (seqS (setV 2 fun ρ => newT0)
  (seqS (fun ρ => bd (bd (bd (consM (bd (vl ρ 1) fun d => bd (insM 0 d) fun d => noX (callM 1 m_Steps_rows [d])) (rt [])) fun ds => callM 1 m_possible ds) seqM) fun ds => forM (.tup [3, 4]) (seqS (setV 5 fun ρ => (bd (consM (vl ρ 0) (consM (vl ρ 4) (rt []))) fun ds => callM 2 m_answer_for ds))
  (seqS (fun ρ => bd (boolT (c1 (isoD 8) (consM (vb ρ 5) (consM (rt (.cls 3)) (rt []))))) fun t => iteM t ((fun ρ => bd (bd (consM (vl ρ 3) (consM (vl ρ 5) (consM (bd (bd (bd (vl ρ 2) lockM) keysF) fun ds => bd (noX (dcM (fun d => bindD (.one 6) d (wipeE ρ [6])) (fun ρ => (boolT (o2 ltI (c1 lenD (consM (vb ρ 6) (rt []))) (c1 lenD (consM (vb ρ 3) (rt [])))))) (fun ρ => (vl ρ 6)) (fun ρ => (o2 getT (vb ρ 2) (vb ρ 6))) ds [])) newDcM) (rt [])))) fun ds => callM 3 m_Fewest_init ds) fun d => rt (.ret d)) ρ) (nextS ρ))
  (fun ρ => bd (vl ρ 5) fun v => bd (vl ρ 2) fun x => bd (vl ρ 3) fun y => putT x y v ρ))) ds ρ)
  (fun ρ => bd (bd (consM (vl ρ 2) (rt [])) fun ds => callM 1 m_Hopeless_init ds) fun d => rt (.ret d)))))
def m_fewest : List D → M D := fnM 7 b_fewest
def b_fewest_size : Sm.Env → M Out :=
  (seqS (setV 2 fun ρ => (bd (consM (vl ρ 0) (consM (vl ρ 1) (rt []))) fun ds => callM 2 m_fewest ds))
  (fun ρ => bd (bd (boolT (c1 (isoD 8) (consM (vb ρ 2) (consM (rt (.cls 6)) (rt []))))) fun t => iteM t (c1 lenD (consM (bd (vl ρ 2) (slotM 6 0)) (rt []))) (rt .non)) fun d => rt (.ret d)))
def m_fewest_size : List D → M D := fnM 3 b_fewest_size
def b_is_spot_pair : Sm.Env → M Out :=
  (fun ρ => bd (andV (c1 isiD (consM (vb ρ 0) (consM (rt (.ty "tuple")) (rt [])))) (andV (o2 eqD (c1 lenD (consM (vb ρ 0) (rt []))) (rt (.int 2))) (c1 allD (consM (bd (bd (bd (vl ρ 0) seqM) fun ds => noX (lcM (fun d => bindD (.one 1) d (wipeE ρ [1])) (fun ρ => (rt true)) (fun ρ => (bd (consM (vl ρ 1) (consM (rt (.int 0)) (consM (rt (.int 6)) (rt [])))) fun ds => callM 3 m_is_number ds)) ds)) fun ds => rt (.lst ds)) (rt []))))) fun d => rt (.ret d))
def m_is_spot_pair : List D → M D := fnM 2 b_is_spot_pair
def b_labelled : Sm.Env → M Out :=
  (seqS (fun ρ => bd (bd (consM (vl ρ 0) (rt [])) fun ds => callM 1 m_check_steps ds) fun _ => rt (.nx ρ))
  (seqS (fun ρ => bd (notT (boolT (bd (vl ρ 0) fun d => bd (insM 0 d) fun d => callM 1 m_Steps_is_whole [d]))) fun t => iteM t ((fun _ => stk) ρ) (nextS ρ))
  (seqS (fun ρ => bd (orT (notT (boolT (c1 isiD (consM (vb ρ 1) (consM (rt (.ty "tuple")) (rt [])))))) (notT (boolT (c1 allD (consM (bd (bd (bd (vl ρ 1) seqM) fun ds => noX (lcM (fun d => bindD (.one 5) d (wipeE ρ [5])) (fun ρ => (rt true)) (fun ρ => (bd (consM (vl ρ 5) (rt [])) fun ds => callM 1 m_is_spot_pair ds)) ds)) fun ds => rt (.lst ds)) (rt [])))))) fun t => iteM t ((fun _ => stk) ρ) (nextS ρ))
  (seqS (setV 2 fun ρ => (bd (consM (bd (vl ρ 0) fun d => bd (insM 0 d) fun d => noX (callM 1 m_Steps_rows [d])) (rt [])) fun ds => callM 1 m_plain_spots ds))
  (seqS (fun ρ => bd (boolT (o2 neD (bd (c1N listD (consM (vb ρ 1) (rt []))) fun ds => rt (.lst ds)) (bd (bd (bd (vl ρ 2) seqM) fun ds => noX (lcM (fun d => bindD (.one 4) d (wipeE ρ [4])) (fun ρ => (boolT (o2 (inD false) (vb ρ 4) (vb ρ 1)))) (fun ρ => (vl ρ 4)) ds)) fun ds => rt (.lst ds)))) fun t => iteM t ((fun _ => stk) ρ) (nextS ρ))
  (seqS (setV 3 fun ρ => (bd (consM (bd (vl ρ 0) fun d => bd (insM 0 d) fun d => noX (callM 1 m_Steps_rows [d])) (consM (vl ρ 1) (rt []))) fun ds => callM 2 m_labels_for ds))
  (seqS (fun ρ => bd (boolT (bd (vb ρ 3) fun x => op1 (isN false) x)) fun t => iteM t ((fun _ => stk) ρ) (nextS ρ))
  (fun ρ => bd (bd (consM (bd (consM (bd (vl ρ 0) fun d => bd (insM 0 d) fun d => noX (callM 1 m_Steps_rows [d])) (consM (vl ρ 1) (consM (vl ρ 3) (rt [])))) fun ds => callM 3 m_after_choice ds) (rt [])) fun ds => callM 1 m_Steps_init ds) fun d => rt (.ret d)))))))))
def m_labelled : List D → M D := fnM 6 b_labelled
def b_are_doubts : Sm.Env → M Out :=
  (seqS (fun ρ => bd (orT (boolT (o2 neD (c1 lenX (consM (vb ρ 2) (rt []))) (c1 lenD (consM (vb ρ 1) (rt []))))) (notT (boolT (c1 allD (consM (bd (bd (bd (vl ρ 1) seqM) fun ds => noX (lcM (fun d => bindD (.tup [3, 4]) d (wipeE ρ [3, 4])) (fun ρ => (rt true)) (fun ρ => (o2 (inT false) (vb ρ 3) (vb ρ 2))) ds)) fun ds => rt (.lst ds)) (rt [])))))) fun t => iteM t ((fun ρ => bd (rt (.bl false)) fun d => rt (.ret d)) ρ) (nextS ρ))
  (seqS (fun ρ => bd (bd (vl ρ 1) seqM) fun ds => forM (.tup [3, 4]) (fun ρ => bd (orT (notT (boolT (c1 (isoD 8) (consM (o2 getT (vb ρ 2) (vb ρ 3)) (consM (rt (.cls 4)) (rt [])))))) (notT (boolT (bd (o2 getT (vb ρ 2) (vb ρ 3)) fun d => bd (insM 4 d) fun d => bd (consM (vl ρ 0) (consM (bd (consM (vl ρ 4) (rt [])) fun ds => callM 1 m_Steps_init ds) (rt []))) fun ds => callM 3 m_Astray_shows (d :: ds))))) fun t => iteM t ((fun ρ => bd (rt (.bl false)) fun d => rt (.ret d)) ρ) (nextS ρ)) ds ρ)
  (fun ρ => bd (rt (.bl true)) fun d => rt (.ret d))))
def m_are_doubts : List D → M D := fnM 5 b_are_doubts
def b_Fewest_shows : Sm.Env → M Out :=
  (seqS (fun ρ => bd (bd (consM (vl ρ 1) (consM (vl ρ 2) (rt []))) fun ds => callM 2 m_check_few ds) fun _ => rt (.nx ρ))
  (seqS (setV 3 fun ρ => (bd (consM (bd (vl ρ 2) fun d => bd (insM 0 d) fun d => noX (callM 1 m_Steps_rows [d])) (rt [])) fun ds => callM 1 m_possible ds))
  (seqS (setN 4 fun ρ => (bd (bd (vl ρ 3) seqM) fun ds => noX (lcM (fun d => bindD (.tup [5, 6]) d (wipeE ρ [5, 6])) (fun ρ => (boolT (o2 eqD (vb ρ 5) (bd (vl ρ 0) (slotM 6 0))))) (fun ρ => (vl ρ 6)) ds)))
  (seqS (fun ρ => bd (orT (boolT (o2 eqD (vb ρ 4) (bd (lstM (rt [])) fun ds => rt (.lst ds)))) (orT (notT (boolT (c1 (isoD 8) (consM (bd (vl ρ 0) (slotM 6 2)) (consM (rt (.cls 3)) (rt [])))))) (notT (boolT (bd (bd (vl ρ 0) (slotM 6 2)) fun d => bd (insM 3 d) fun d => bd (consM (vl ρ 1) (consM (bd (consM (o2 ixD (vb ρ 4) (rt (.int 0))) (rt [])) fun ds => callM 1 m_Steps_init ds) (rt []))) fun ds => callM 3 m_Sure_shows (d :: ds)))))) fun t => iteM t ((fun ρ => bd (rt (.bl false)) fun d => rt (.ret d)) ρ) (nextS ρ))
  (fun ρ => bd (bd (consM (vl ρ 1) (consM (bd (bd (bd (vl ρ 3) seqM) fun ds => noX (lcM (fun d => bindD (.one 7) d (wipeE ρ [7])) (fun ρ => (boolT (o2 ltI (c1 lenD (consM (o2 ixD (vb ρ 7) (rt (.int 0))) (rt []))) (c1 lenD (consM (bd (vl ρ 0) (slotM 6 0)) (rt [])))))) (fun ρ => (vl ρ 7)) ds)) fun ds => rt (.lst ds)) (consM (bd (vl ρ 0) (slotM 6 1)) (rt [])))) fun ds => callM 3 m_are_doubts ds) fun d => rt (.ret d))))))
def m_Fewest_shows : List D → M D := fnM 8 b_Fewest_shows
def b_Hopeless_shows : Sm.Env → M Out :=
  (seqS (fun ρ => bd (bd (consM (vl ρ 1) (consM (vl ρ 2) (rt []))) fun ds => callM 2 m_check_few ds) fun _ => rt (.nx ρ))
  (fun ρ => bd (bd (consM (vl ρ 1) (consM (bd (consM (bd (vl ρ 2) fun d => bd (insM 0 d) fun d => noX (callM 1 m_Steps_rows [d])) (rt [])) fun ds => callM 1 m_possible ds) (consM (bd (vl ρ 0) (slotM 7 0)) (rt [])))) fun ds => callM 3 m_are_doubts ds) fun d => rt (.ret d)))
def m_Hopeless_shows : List D → M D := fnM 3 b_Hopeless_shows
def b__law_labels_right : Sm.Env → M Out :=
  (seqS (setV 0 fun ρ => (bd (consM (tupM (consM (rt .non) (consM (tupM (rt [])) (rt [])))) (consM (tupM (consM (rt (.str "b")) (consM (tupM (consM (tupM (consM (rt (.str "above")) (consM (rt (.int 1)) (rt [])))) (consM (tupM (consM (rt (.str "number")) (consM (rt (.int 0)) (rt [])))) (rt [])))) (rt [])))) (consM (tupM (consM (rt .non) (consM (tupM (consM (tupM (consM (rt (.str "number")) (consM (rt (.int 1)) (rt [])))) (rt []))) (rt [])))) (rt [])))) fun ds => bd (opt (if ds.length ≤ LIM then some () else none)) fun _ => noX (m_Steps_of [.cls 0, .tup ds])))
  (seqS (parS [4, 5] 2 fun ρ => (bd (bd (consM (bd (consM (rt (.str "follow")) (rt [])) fun ds => bd (opt (if ds.length = 1 then some () else none)) fun _ => callM 4 m_Way_init (kd_Way_init_2 ds)) (consM (tupM (consM (rt (.str "move")) (rt []))) (rt []))) fun as => bd (consM (rt (.int 3)) (rt [])) fun zs => bd (opt (if as.length = 2 ∧ zs.length = 1 then some () else none)) fun _ => callM 3 m_Plan_init (as ++ zs)) fun d => bd (bd (bd (consM (bd (rt []) fun ds => bd (opt (if ds.length = 0 then some () else none)) fun _ => callM 4 m_Way_init (kd_Way_init_0 ds)) (consM (tupM (consM (rt (.str "copy")) (consM (rt (.str "move")) (rt [])))) (rt []))) fun as => callM 3 m_Plan_init (as ++ [.int 4])) fun d => bd (rt []) fun ss => rt (.val d :: ss)) fun ss => rt (.val d :: ss)))
  (seqS (setV 1 fun ρ => (bd (consM (vl ρ 4) (consM (vl ρ 0) (rt []))) fun ds => callM 2 m_fewest ds))
  (seqS (fun ρ => bd (orT (boolT (o2 neD (bd (vl ρ 1) (slotM 6 0)) (tupM (consM (tupM (consM (rt (.int 1)) (consM (rt (.int 0)) (rt [])))) (rt []))))) (orT (boolT (o2 neD (bd (c1N listX2 (consM (bd (vl ρ 1) (slotM 6 1)) (rt []))) fun ds => rt (.lst ds)) (bd (lstM (consM (tupM (rt [])) (rt []))) fun ds => rt (.lst ds)))) (boolT (bd (bd (consM (vl ρ 5) (consM (vl ρ 0) (rt []))) fun ds => callM 2 m_fewest_size ds) fun x => op1 (isN true) x)))) fun t => iteM t ((fun ρ => bd (rt (.bl false)) fun d => rt (.ret d)) ρ) (nextS ρ))
  (seqS (fun ρ => bd (boolT (o2 neD (bd (bd (consM (vl ρ 0) (consM (tupM (consM (tupM (consM (rt (.int 1)) (consM (rt (.int 0)) (rt [])))) (consM (tupM (consM (rt (.int 1)) (consM (rt (.int 1)) (rt [])))) (consM (tupM (consM (rt (.int 2)) (consM (rt (.int 0)) (rt [])))) (rt []))))) (rt []))) fun ds => callM 2 m_labelled ds) fun d => bd (insM 0 d) fun d => noX (callM 1 m_Steps_rows [d])) (tupM (consM (tupM (consM (rt (.str "a")) (consM (tupM (rt [])) (rt [])))) (consM (tupM (consM (rt (.str "b")) (consM (tupM (consM (tupM (consM (rt (.str "label")) (consM (rt (.str "a")) (rt [])))) (consM (tupM (consM (rt (.str "label")) (consM (rt (.str "a")) (rt [])))) (rt [])))) (rt [])))) (consM (tupM (consM (rt .non) (consM (tupM (consM (tupM (consM (rt (.str "label")) (consM (rt (.str "b")) (rt [])))) (rt []))) (rt [])))) (rt []))))))) fun t => iteM t ((fun ρ => bd (rt (.bl false)) fun d => rt (.ret d)) ρ) (nextS ρ))
  (seqS (fun ρ => bd (orT (boolT (bd (bd (consM (tupM (consM (tupM (consM (rt (.int 1)) (consM (rt (.int 1)) (rt [])))) (rt []))) (consM (bd (vl ρ 1) (slotM 6 2)) (consM (bd (vl ρ 1) (slotM 6 1)) (rt [])))) fun ds => callM 3 m_Fewest_init ds) fun d => bd (insM 6 d) fun d => bd (consM (vl ρ 4) (consM (vl ρ 0) (rt []))) fun ds => callM 3 m_Fewest_shows (d :: ds))) (notT (boolT (bd (bd (consM (bd (vl ρ 1) (slotM 6 0)) (consM (bd (vl ρ 1) (slotM 6 2)) (consM (bd (tupM (rt [])) fun k => bd (bd (consM (bd (lstM (consM (tupM (consM (rt (.str "move")) (consM (rt (.int 0)) (consM (rt (.int 1)) (rt []))))) (rt []))) fun ds => rt (.lst ds)) (rt [])) fun ds => callM 1 m_Astray_init ds) fun v => newT1 k v) (rt [])))) fun ds => callM 3 m_Fewest_init ds) fun d => bd (insM 6 d) fun d => bd (consM (vl ρ 4) (consM (vl ρ 0) (rt []))) fun ds => callM 3 m_Fewest_shows (d :: ds))))) fun t => iteM t ((fun ρ => bd (rt (.bl false)) fun d => rt (.ret d)) ρ) (nextS ρ))
  (seqS (fun ρ => bd (orT (boolT (bd (bd (consM (bd (vl ρ 1) (slotM 6 0)) (consM (bd (vl ρ 1) (slotM 6 2)) (consM newT0 (rt [])))) fun ds => callM 3 m_Fewest_init ds) fun d => bd (insM 6 d) fun d => bd (consM (vl ρ 4) (consM (vl ρ 0) (rt []))) fun ds => callM 3 m_Fewest_shows (d :: ds))) (boolT (bd (bd (consM (bd (vl ρ 1) (slotM 6 1)) (rt [])) fun ds => callM 1 m_Hopeless_init ds) fun d => bd (insM 7 d) fun d => bd (consM (vl ρ 4) (consM (vl ρ 0) (rt []))) fun ds => callM 3 m_Hopeless_shows (d :: ds)))) fun t => iteM t ((fun ρ => bd (rt (.bl false)) fun d => rt (.ret d)) ρ) (nextS ρ))
  (seqS (setV 2 fun ρ => (bd (consM (bd (rt []) fun ds => bd (opt (if ds.length = 0 then some () else none)) fun _ => callM 4 m_Way_init (kd_Way_init_0 ds)) (consM (tupM (consM (rt (.str "append")) (rt []))) (rt []))) fun as => callM 3 m_Plan_init (as ++ [.int 4])))
  (seqS (fun ρ => bd (orT (boolT (o2 neD (bd (bd (consM (vl ρ 2) (consM (vl ρ 0) (rt []))) fun ds => callM 2 m_fewest ds) (slotM 6 0)) (tupM (rt [])))) (orT (boolT (o2 neT0 (bd (bd (consM (vl ρ 2) (consM (vl ρ 0) (rt []))) fun ds => callM 2 m_fewest ds) (slotM 6 1)) newT0)) (boolT (o2 neD (bd (consM (bd (consM (bd (rt []) fun ds => bd (opt (if ds.length = 0 then some () else none)) fun _ => callM 4 m_Way_init (kd_Way_init_0 ds)) (consM (tupM (consM (rt (.str "put")) (rt []))) (rt []))) fun as => callM 3 m_Plan_init (as ++ [.int 4])) (consM (vl ρ 0) (rt []))) fun ds => callM 2 m_fewest_size ds) (rt (.int 3)))))) fun t => iteM t ((fun ρ => bd (rt (.bl false)) fun d => rt (.ret d)) ρ) (nextS ρ))
  (seqS (setV 3 fun ρ => (bd (consM (tupM (consM (rt (.str "a")) (consM (tupM (rt [])) (rt [])))) (consM (tupM (consM (rt (.str "a")) (consM (tupM (rt [])) (rt [])))) (consM (tupM (consM (rt .non) (consM (tupM (consM (tupM (consM (rt (.str "above")) (consM (rt (.int 1)) (rt [])))) (consM (tupM (consM (rt (.str "number")) (consM (rt (.int 0)) (rt [])))) (rt [])))) (rt [])))) (rt [])))) fun ds => bd (opt (if ds.length ≤ LIM then some () else none)) fun _ => noX (m_Steps_of [.cls 0, .tup ds])))
  (seqS (fun ρ => bd (boolT (o2 neD (o2 ixD (bd (bd (consM (vl ρ 3) (consM (tupM (consM (tupM (consM (rt (.int 2)) (consM (rt (.int 1)) (rt [])))) (rt []))) (rt []))) fun ds => callM 2 m_labelled ds) fun d => bd (insM 0 d) fun d => noX (callM 1 m_Steps_rows [d])) (rt (.int 2))) (tupM (consM (rt .non) (consM (tupM (consM (tupM (consM (rt (.str "above")) (consM (rt (.int 1)) (rt [])))) (consM (tupM (consM (rt (.str "label")) (consM (rt (.str "a")) (rt [])))) (rt [])))) (rt [])))))) fun t => iteM t ((fun ρ => bd (rt (.bl false)) fun d => rt (.ret d)) ρ) (nextS ρ))
  (fun ρ => bd (c1 (isoD 8) (consM (bd (consM (bd (consM (bd (rt []) fun ds => bd (opt (if ds.length = 0 then some () else none)) fun _ => callM 4 m_Way_init (kd_Way_init_0 ds)) (consM (tupM (consM (rt (.str "put")) (rt []))) (rt []))) fun as => callM 3 m_Plan_init (as ++ [.int 4])) (consM (vl ρ 3) (rt []))) fun ds => callM 2 m_fewest ds) (consM (rt (.cls 7)) (rt [])))) fun d => rt (.ret d)))))))))))))
def m__law_labels_right : List D → M D := fnM 6 b__law_labels_right
def b_law : Sm.Env → M Out :=
  (seqS (setV 1 fun ρ => (o2 modI (c1 intD (consM (c1 absD (consM (c1 sumD (consM (bd (bd (vb ρ 0) fun x => bd (rt none) fun i => bd (bd (rt (.int 9)) asI) fun j => sliceL x i j) fun ds => rt (.lst ds)) (rt []))) (rt []))) (rt []))) (rt (.int 3))))
  (seqS (fun ρ => bd (boolT (o2 eqD (vb ρ 1) (rt (.int 0)))) fun t => iteM t ((fun ρ => bd (callM 0 m__law_edits_right []) fun d => rt (.ret d)) ρ) (nextS ρ))
  (fun ρ => bd (bd (boolT (o2 eqD (vb ρ 1) (rt (.int 1)))) fun t => iteM t (callM 0 m__law_sure_right []) (callM 0 m__law_labels_right [])) fun d => rt (.ret d))))
def m_law : List D → M D := fnM 2 b_law
/-- what the top has made -/
structure Fc (c : Cf) (w : World) (mg : Str → Option Value) : Prop where
  C : CF c 8
  cw : c.w = w
  g_ALL_WORDS : ∃ ad, mg "ALL_WORDS" = some (.ref ad) ∧ KTs c.K ad ALL_WORDS_L
  g_Astray : mg "Astray" = some (.ref (c.cls 4))
  g_Fewest : mg "Fewest" = some (.ref (c.cls 6))
  g_Hopeless : mg "Hopeless" = some (.ref (c.cls 7))
  g_KINDS : ∃ ad, mg "KINDS" = some (.ref ad) ∧ KTs c.K ad KINDS_L
  g_LETTERS : ∃ ad, mg "LETTERS" = some (.ref ad) ∧ KTs c.K ad LETTERS_L
  g_MOST_LISTS : ∃ u, mg "MOST_LISTS" = some u ∧ RelV (.int 400) u
  g_MOST_MOST : ∃ u, mg "MOST_MOST" = some u ∧ RelV (.int 5) u
  g_MOST_NUMBER : ∃ u, mg "MOST_NUMBER" = some u ∧ RelV (.int 9) u
  g_MOST_POINTERS : ∃ u, mg "MOST_POINTERS" = some u ∧ RelV (.int 2) u
  g_MOST_SPOTS : ∃ u, mg "MOST_SPOTS" = some u ∧ RelV (.int 5) u
  g_MOST_STEPS : ∃ u, mg "MOST_STEPS" = some u ∧ RelV (.int 6) u
  g_Plan : mg "Plan" = some (.ref (c.cls 2))
  g_RANKS : ∃ ad, mg "RANKS" = some (.ref ad) ∧ KDt c w ad RANKS_L
  g_Steps : mg "Steps" = some (.ref (c.cls 0))
  g_Sure : mg "Sure" = some (.ref (c.cls 3))
  x_TooLarge : mg "TooLarge" = some (.ref (c.cls 9)) ∧ ExC c.K (c.cls 9)
  g_Way : mg "Way" = some (.ref (c.cls 1))
  g_Web : mg "Web" = some (.ref (c.cls 5))
  g_abs : mg "abs" = none
  g_all : mg "all" = none
  g_any : mg "any" = none
  g_bool : mg "bool" = none
  co_Steps : ∃ g, StX.CallO c.K (c.cls 0) g
  co_Way : ∃ g, StX.CallO c.K (c.cls 1) g
  g_enumerate : mg "enumerate" = none
  gi_Steps : ∃ g, PySem.W.findIn c.K (.ref (c.cls 0)) "__getitem__" = some (some (.ref g)) ∧ PySem.W.fnIn c.K g = true
  g_int : mg "int" = none
  g_isinstance : mg "isinstance" = none
  g_len : mg "len" = none
  g_list : mg "list" = none
  g_range : mg "range" = none
  s_Astray_edits : ∃ ad, SlX.Slot1 c.K (c.cls 4) "edits" ad 0
  s_Fewest_choice : ∃ ad, SlX.Slot1 c.K (c.cls 6) "choice" ad 0
  s_Fewest_doubts : ∃ ad, SlX.Slot1 c.K (c.cls 6) "doubts" ad 1
  s_Fewest_sure : ∃ ad, SlX.Slot1 c.K (c.cls 6) "sure" ad 2
  s_Hopeless_doubts : ∃ ad, SlX.Slot1 c.K (c.cls 7) "doubts" ad 0
  s_Plan_own_most : ∃ ad, SlX.Slot1 c.K (c.cls 2) "own_most" ad 0
  s_Plan_own_way : ∃ ad, SlX.Slot1 c.K (c.cls 2) "own_way" ad 1
  s_Plan_own_words : ∃ ad, SlX.Slot1 c.K (c.cls 2) "own_words" ad 2
  s_Steps_line : ∃ ad, SlX.Slot1 c.K (c.cls 0) "line" ad 0
  s_Sure_lists : ∃ ad, SlX.Slot1 c.K (c.cls 3) "lists" ad 0
  s_Way_line : ∃ ad, SlX.Slot1 c.K (c.cls 1) "line" ad 0
  s_Web_lost : ∃ ad, SlX.Slot1 c.K (c.cls 5) "lost" ad 0
  s_Web_roads : ∃ ad, SlX.Slot1 c.K (c.cls 5) "roads" ad 1
  g_str : mg "str" = none
  g_sum : mg "sum" = none
  g_tuple : mg "tuple" = none
  g_zip : mg "zip" = none
  f_is_label : ∃ ad fd, mg "is_label" = some (.ref ad) ∧ FunD c.K "is_label" "is_label" (defArgs (top 17)) (defBody (top 17)) (defScope (top 17)) [] [] ad fd
  f_is_number : ∃ ad fd, mg "is_number" = some (.ref ad) ∧ FunD c.K "is_number" "is_number" (defArgs (top 16)) (defBody (top 16)) (defScope (top 16)) [] [] ad fd
  f_is_pointer : ∃ ad fd, mg "is_pointer" = some (.ref ad) ∧ FunD c.K "is_pointer" "is_pointer" (defArgs (top 18)) (defBody (top 18)) (defScope (top 18)) [] [] ad fd
  f_is_step : ∃ ad fd, mg "is_step" = some (.ref ad) ∧ FunD c.K "is_step" "is_step" (defArgs (top 19)) (defBody (top 19)) (defScope (top 19)) [] [] ad fd
  f_Steps_init : ∃ ad fd, Mk c.K (c.cls 0) ad ∧ FunD c.K "__init__" "Steps.__init__" (defArgs (inClass (top 27) 1)) (defBody (inClass (top 27) 1)) (defScope (inClass (top 27) 1)) [] [] ad fd
  f_Steps_of : ∃ p ad fd, CMetX c.K (c.cls 0) "of" p ad ∧ FunD c.K "of" "Steps.of" (defArgs (inClass (top 27) 2)) (defBody (inClass (top 27) 2)) (defScope (inClass (top 27) 2)) [] [] ad fd
  f__law_list : ∃ ad fd, mg "_law_list" = some (.ref ad) ∧ FunD c.K "_law_list" "_law_list" (defArgs (top 85)) (defBody (top 85)) (defScope (top 85)) [] [] ad fd
  f_is_word : ∃ ad fd, mg "is_word" = some (.ref ad) ∧ FunD c.K "is_word" "is_word" (defArgs (top 40)) (defBody (top 40)) (defScope (top 40)) [] [] ad fd
  f_Way_init : ∃ ad fd, Mk c.K (c.cls 1) ad ∧ FunD c.K "__init__" "Way.__init__" (defArgs (inClass (top 41) 1)) (defBody (inClass (top 41) 1)) (defScope (inClass (top 41) 1)) [] [("number", .str "raw"), ("above", .str "raw"), ("below", .str "raw"), ("end", .str "raw")] ad fd
  f_Way_every : ∃ p ad fd, SMet c.K (c.cls 1) "every" p ad ∧ FunD c.K "every" "Way.every" (defArgs (inClass (top 41) 2)) (defBody (inClass (top 41) 2)) (defScope (inClass (top 41) 2)) [] [] ad fd
  f_all_spots : ∃ ad fd, mg "all_spots" = some (.ref ad) ∧ FunD c.K "all_spots" "all_spots" (defArgs (top 23)) (defBody (top 23)) (defScope (top 23)) [] [] ad fd
  f_Steps_spots : ∃ ad fd, Meth c.K (c.cls 0) "spots" ad ∧ FunD c.K "spots" "Steps.spots" (defArgs (inClass (top 27) 9)) (defBody (inClass (top 27) 9)) (defScope (inClass (top 27) 9)) [] [] ad fd
  f_first_with : ∃ ad fd, mg "first_with" = some (.ref ad) ∧ FunD c.K "first_with" "first_with" (defArgs (top 21)) (defBody (top 21)) (defScope (top 21)) [] [] ad fd
  f_meaning : ∃ ad fd, mg "meaning" = some (.ref ad) ∧ FunD c.K "meaning" "meaning" (defArgs (top 22)) (defBody (top 22)) (defScope (top 22)) [] [] ad fd
  f_meant_at : ∃ ad fd, mg "meant_at" = some (.ref ad) ∧ FunD c.K "meant_at" "meant_at" (defArgs (top 24)) (defBody (top 24)) (defScope (top 24)) [] [] ad fd
  f_Steps_call : ∃ ad fd, Meth c.K (c.cls 0) "__call__" ad ∧ FunD c.K "__call__" "Steps.__call__" (defArgs (inClass (top 27) 8)) (defBody (inClass (top 27) 8)) (defScope (inClass (top 27) 8)) [] [] ad fd
  f_are_whole : ∃ ad fd, mg "are_whole" = some (.ref ad) ∧ FunD c.K "are_whole" "are_whole" (defArgs (top 25)) (defBody (top 25)) (defScope (top 25)) [] [] ad fd
  f_Steps_is_whole : ∃ ad fd, Meth c.K (c.cls 0) "is_whole" ad ∧ FunD c.K "is_whole" "Steps.is_whole" (defArgs (inClass (top 27) 10)) (defBody (inClass (top 27) 10)) (defScope (inClass (top 27) 10)) [] [] ad fd
  f_check_steps : ∃ ad fd, mg "check_steps" = some (.ref ad) ∧ FunD c.K "check_steps" "check_steps" (defArgs (top 28)) (defBody (top 28)) (defScope (top 28)) [] [] ad fd
  f_are_rows : ∃ ad fd, mg "are_rows" = some (.ref ad) ∧ FunD c.K "are_rows" "are_rows" (defArgs (top 20)) (defBody (top 20)) (defScope (top 20)) [] [] ad fd
  f_is_edit : ∃ ad fd, mg "is_edit" = some (.ref ad) ∧ FunD c.K "is_edit" "is_edit" (defArgs (top 32)) (defBody (top 32)) (defScope (top 32)) [] [] ad fd
  f_Steps_rows : ∃ p ad fd, Prp c.K (c.cls 0) "rows" p ad ∧ FunD c.K "rows" "Steps.rows" (defArgs (inClass (top 27) 3)) (defBody (inClass (top 27) 3)) (defScope (inClass (top 27) 3)) [] [] ad fd
  f_sources : ∃ ad fd, mg "sources" = some (.ref ad) ∧ FunD c.K "sources" "sources" (defArgs (top 33)) (defBody (top 33)) (defScope (top 33)) [] [] ad fd
  f_standing : ∃ ad fd, mg "standing" = some (.ref ad) ∧ FunD c.K "standing" "standing" (defArgs (top 34)) (defBody (top 34)) (defScope (top 34)) [] [] ad fd
  f_pointing : ∃ ad fd, mg "pointing" = some (.ref ad) ∧ FunD c.K "pointing" "pointing" (defArgs (top 35)) (defBody (top 35)) (defScope (top 35)) [] [] ad fd
  f_kept : ∃ ad fd, mg "kept" = some (.ref ad) ∧ FunD c.K "kept" "kept" (defArgs (top 36)) (defBody (top 36)) (defScope (top 36)) [] [] ad fd
  f_label_of : ∃ ad fd, mg "label_of" = some (.ref ad) ∧ FunD c.K "label_of" "label_of" (defArgs (top 38)) (defBody (top 38)) (defScope (top 38)) [] [] ad fd
  f_edited : ∃ ad fd, mg "edited" = some (.ref ad) ∧ FunD c.K "edited" "edited" (defArgs (top 37)) (defBody (top 37)) (defScope (top 37)) [] [] ad fd
  f_Way_call : ∃ ad fd, Meth c.K (c.cls 1) "__call__" ad ∧ FunD c.K "__call__" "Way.__call__" (defArgs (inClass (top 41) 8)) (defBody (inClass (top 41) 8)) (defScope (inClass (top 41) 8)) [] [] ad fd
  f_Steps_getitem : ∃ ad fd, Meth c.K (c.cls 0) "__getitem__" ad ∧ FunD c.K "__getitem__" "Steps.__getitem__" (defArgs (inClass (top 27) 6)) (defBody (inClass (top 27) 6)) (defScope (inClass (top 27) 6)) [] [] ad fd
  f_check_way : ∃ ad fd, mg "check_way" = some (.ref ad) ∧ FunD c.K "check_way" "check_way" (defArgs (top 43)) (defBody (top 43)) (defScope (top 43)) [] [] ad fd
  f_check_edit : ∃ ad fd, mg "check_edit" = some (.ref ad) ∧ FunD c.K "check_edit" "check_edit" (defArgs (top 81)) (defBody (top 81)) (defScope (top 81)) [] [] ad fd
  f_Way_words : ∃ p ad fd, Prp c.K (c.cls 1) "words" p ad ∧ FunD c.K "words" "Way.words" (defArgs (inClass (top 41) 7)) (defBody (inClass (top 41) 7)) (defScope (inClass (top 41) 7)) [] [] ad fd
  f_astray : ∃ ad fd, mg "astray" = some (.ref ad) ∧ FunD c.K "astray" "astray" (defArgs (top 83)) (defBody (top 83)) (defScope (top 83)) [] [] ad fd
  f_origins : ∃ ad fd, mg "origins" = some (.ref ad) ∧ FunD c.K "origins" "origins" (defArgs (top 82)) (defBody (top 82)) (defScope (top 82)) [] [] ad fd
  f__law_edits_right : ∃ ad fd, mg "_law_edits_right" = some (.ref ad) ∧ FunD c.K "_law_edits_right" "_law_edits_right" (defArgs (top 86)) (defBody (top 86)) (defScope (top 86)) [] [] ad fd
  f_are_words : ∃ ad fd, mg "are_words" = some (.ref ad) ∧ FunD c.K "are_words" "are_words" (defArgs (top 47)) (defBody (top 47)) (defScope (top 47)) [] [] ad fd
  f_Plan_init : ∃ ad fd, Mk c.K (c.cls 2) ad ∧ FunD c.K "__init__" "Plan.__init__" (defArgs (inClass (top 48) 1)) (defBody (inClass (top 48) 1)) (defScope (inClass (top 48) 1)) [] [("most", .int 4)] ad fd
  f_check_plan : ∃ ad fd, mg "check_plan" = some (.ref ad) ∧ FunD c.K "check_plan" "check_plan" (defArgs (top 49)) (defBody (top 49)) (defScope (top 49)) [] [] ad fd
  f_Steps_len : ∃ ad fd, Meth c.K (c.cls 0) "__len__" ad ∧ FunD c.K "__len__" "Steps.__len__" (defArgs (inClass (top 27) 5)) (defBody (inClass (top 27) 5)) (defScope (inClass (top 27) 5)) [] [] ad fd
  f_Plan_most : ∃ p ad fd, Prp c.K (c.cls 2) "most" p ad ∧ FunD c.K "most" "Plan.most" (defArgs (inClass (top 48) 4)) (defBody (inClass (top 48) 4)) (defScope (inClass (top 48) 4)) [] [] ad fd
  f_check_for : ∃ ad fd, mg "check_for" = some (.ref ad) ∧ FunD c.K "check_for" "check_for" (defArgs (top 50)) (defBody (top 50)) (defScope (top 50)) [] [] ad fd
  f_Plan_words : ∃ p ad fd, Prp c.K (c.cls 2) "words" p ad ∧ FunD c.K "words" "Plan.words" (defArgs (inClass (top 48) 3)) (defBody (inClass (top 48) 3)) (defScope (inClass (top 48) 3)) [] [] ad fd
  f_is_free : ∃ ad fd, mg "is_free" = some (.ref ad) ∧ FunD c.K "is_free" "is_free" (defArgs (top 51)) (defBody (top 51)) (defScope (top 51)) [] [] ad fd
  f_is_allowed : ∃ ad fd, mg "is_allowed" = some (.ref ad) ∧ FunD c.K "is_allowed" "is_allowed" (defArgs (top 52)) (defBody (top 52)) (defScope (top 52)) [] [] ad fd
  f_all_allowed : ∃ ad fd, mg "all_allowed" = some (.ref ad) ∧ FunD c.K "all_allowed" "all_allowed" (defArgs (top 53)) (defBody (top 53)) (defScope (top 53)) [] [] ad fd
  f_allowed : ∃ ad fd, mg "allowed" = some (.ref ad) ∧ FunD c.K "allowed" "allowed" (defArgs (top 54)) (defBody (top 54)) (defScope (top 54)) [] [] ad fd
  f_Sure_init : ∃ ad fd, Mk c.K (c.cls 3) ad ∧ FunD c.K "__init__" "Sure.__init__" (defArgs (inClass (top 59) 1)) (defBody (inClass (top 59) 1)) (defScope (inClass (top 59) 1)) [] [] ad fd
  f_check_whole : ∃ ad fd, mg "check_whole" = some (.ref ad) ∧ FunD c.K "check_whole" "check_whole" (defArgs (top 58)) (defBody (top 58)) (defScope (top 58)) [] [] ad fd
  f_Plan_way : ∃ p ad fd, Prp c.K (c.cls 2) "way" p ad ∧ FunD c.K "way" "Plan.way" (defArgs (inClass (top 48) 2)) (defBody (inClass (top 48) 2)) (defScope (inClass (top 48) 2)) [] [] ad fd
  f_holds : ∃ ad fd, mg "holds" = some (.ref ad) ∧ FunD c.K "holds" "holds" (defArgs (top 60)) (defBody (top 60)) (defScope (top 60)) [] [] ad fd
  f_Sure_shows : ∃ ad fd, Meth c.K (c.cls 3) "shows" ad ∧ FunD c.K "shows" "Sure.shows" (defArgs (inClass (top 59) 3)) (defBody (inClass (top 59) 3)) (defScope (inClass (top 59) 3)) [] [] ad fd
  f_Web_init : ∃ ad fd, Mk c.K (c.cls 5) ad ∧ FunD c.K "__init__" "Web.__init__" (defArgs (inClass (top 57) 1)) (defBody (inClass (top 57) 1)) (defScope (inClass (top 57) 1)) [] [] ad fd
  f_Astray_init : ∃ ad fd, Mk c.K (c.cls 4) ad ∧ FunD c.K "__init__" "Astray.__init__" (defArgs (inClass (top 61) 1)) (defBody (inClass (top 61) 1)) (defScope (inClass (top 61) 1)) [] [] ad fd
  f_Web_edits_lost : ∃ ad fd, Meth c.K (c.cls 5) "edits_lost" ad ∧ FunD c.K "edits_lost" "Web.edits_lost" (defArgs (inClass (top 57) 2)) (defBody (inClass (top 57) 2)) (defScope (inClass (top 57) 2)) [] [] ad fd
  f_answer_for : ∃ ad fd, mg "answer_for" = some (.ref ad) ∧ FunD c.K "answer_for" "answer_for" (defArgs (top 62)) (defBody (top 62)) (defScope (top 62)) [] [] ad fd
  f_sure : ∃ ad fd, mg "sure" = some (.ref ad) ∧ FunD c.K "sure" "sure" (defArgs (top 63)) (defBody (top 63)) (defScope (top 63)) [] [] ad fd
  f_soonest : ∃ ad fd, mg "soonest" = some (.ref ad) ∧ FunD c.K "soonest" "soonest" (defArgs (top 64)) (defBody (top 64)) (defScope (top 64)) [] [] ad fd
  f_Astray_shows : ∃ ad fd, Meth c.K (c.cls 4) "shows" ad ∧ FunD c.K "shows" "Astray.shows" (defArgs (inClass (top 61) 3)) (defBody (inClass (top 61) 3)) (defScope (inClass (top 61) 3)) [] [] ad fd
  f__law_sure_right : ∃ ad fd, mg "_law_sure_right" = some (.ref ad) ∧ FunD c.K "_law_sure_right" "_law_sure_right" (defArgs (top 87)) (defBody (top 87)) (defScope (top 87)) [] [] ad fd
  f_plain_spots : ∃ ad fd, mg "plain_spots" = some (.ref ad) ∧ FunD c.K "plain_spots" "plain_spots" (defArgs (top 67)) (defBody (top 67)) (defScope (top 67)) [] [] ad fd
  f_check_few : ∃ ad fd, mg "check_few" = some (.ref ad) ∧ FunD c.K "check_few" "check_few" (defArgs (top 74)) (defBody (top 74)) (defScope (top 74)) [] [] ad fd
  f_in_order : ∃ ad fd, mg "in_order" = some (.ref ad) ∧ FunD c.K "in_order" "in_order" (defArgs (top 71)) (defBody (top 71)) (defScope (top 71)) [] [] ad fd
  f_labels_for : ∃ ad fd, mg "labels_for" = some (.ref ad) ∧ FunD c.K "labels_for" "labels_for" (defArgs (top 68)) (defBody (top 68)) (defScope (top 68)) [] [] ad fd
  f_after_choice : ∃ ad fd, mg "after_choice" = some (.ref ad) ∧ FunD c.K "after_choice" "after_choice" (defArgs (top 69)) (defBody (top 69)) (defScope (top 69)) [] [] ad fd
  f_possible : ∃ ad fd, mg "possible" = some (.ref ad) ∧ FunD c.K "possible" "possible" (defArgs (top 70)) (defBody (top 70)) (defScope (top 70)) [] [] ad fd
  f_Fewest_init : ∃ ad fd, Mk c.K (c.cls 6) ad ∧ FunD c.K "__init__" "Fewest.__init__" (defArgs (inClass (top 76) 1)) (defBody (inClass (top 76) 1)) (defScope (inClass (top 76) 1)) [] [] ad fd
  f_Hopeless_init : ∃ ad fd, Mk c.K (c.cls 7) ad ∧ FunD c.K "__init__" "Hopeless.__init__" (defArgs (inClass (top 77) 1)) (defBody (inClass (top 77) 1)) (defScope (inClass (top 77) 1)) [] [] ad fd
  f_fewest : ∃ ad fd, mg "fewest" = some (.ref ad) ∧ FunD c.K "fewest" "fewest" (defArgs (top 78)) (defBody (top 78)) (defScope (top 78)) [] [] ad fd
  f_fewest_size : ∃ ad fd, mg "fewest_size" = some (.ref ad) ∧ FunD c.K "fewest_size" "fewest_size" (defArgs (top 79)) (defBody (top 79)) (defScope (top 79)) [] [] ad fd
  f_is_spot_pair : ∃ ad fd, mg "is_spot_pair" = some (.ref ad) ∧ FunD c.K "is_spot_pair" "is_spot_pair" (defArgs (top 72)) (defBody (top 72)) (defScope (top 72)) [] [] ad fd
  f_labelled : ∃ ad fd, mg "labelled" = some (.ref ad) ∧ FunD c.K "labelled" "labelled" (defArgs (top 73)) (defBody (top 73)) (defScope (top 73)) [] [] ad fd
  f_are_doubts : ∃ ad fd, mg "are_doubts" = some (.ref ad) ∧ FunD c.K "are_doubts" "are_doubts" (defArgs (top 75)) (defBody (top 75)) (defScope (top 75)) [] [] ad fd
  f_Fewest_shows : ∃ ad fd, Meth c.K (c.cls 6) "shows" ad ∧ FunD c.K "shows" "Fewest.shows" (defArgs (inClass (top 76) 3)) (defBody (inClass (top 76) 3)) (defScope (inClass (top 76) 3)) [] [] ad fd
  f_Hopeless_shows : ∃ ad fd, Meth c.K (c.cls 7) "shows" ad ∧ FunD c.K "shows" "Hopeless.shows" (defArgs (inClass (top 77) 3)) (defBody (inClass (top 77) 3)) (defScope (inClass (top 77) 3)) [] [] ad fd
  f__law_labels_right : ∃ ad fd, mg "_law_labels_right" = some (.ref ad) ∧ FunD c.K "_law_labels_right" "_law_labels_right" (defArgs (top 88)) (defBody (top 88)) (defScope (top 88)) [] [] ad fd
  f_law : ∃ ad fd, mg "law" = some (.ref ad) ∧ FunD c.K "law" "law" (defArgs (top 89)) (defBody (top 89)) (defScope (top 89)) [] [] ad fd
def kg_Way_init {α : Type} (us mv ws : List α) : List α := match us, mv, ws with
  | [u], [], [z0, z1, z2, z3] => [u, z0, z1, z2, z3]
  | _, _, _ => []
theorem kgr_Way_init {vs mz zs : List V} {us mv ws : List Value} (r1 : Vals vs us) (r2 : Vals mz mv) (r3 : Vals zs ws) : Vals (kg_Way_init vs mz zs) (kg_Way_init us mv ws) := by
  cases r1 with
  | nil => exact .nil
  | cons u0 ut0 =>
    cases ut0 with
    | cons _ _ => exact .nil
    | nil =>
      cases r2 with
      | cons _ _ => exact .nil
      | nil =>
        cases r3 with
        | nil => exact .nil
        | cons z0 zt0 =>
          cases zt0 with
          | nil => exact .nil
          | cons z1 zt1 =>
            cases zt1 with
            | nil => exact .nil
            | cons z2 zt2 =>
              cases zt2 with
              | nil => exact .nil
              | cons z3 zt3 =>
                cases zt3 with
                | cons _ _ => exact .nil
                | nil =>
                  exact .cons u0 (.cons z0 (.cons z1 (.cons z2 (.cons z3 .nil))))
theorem kb_Way_init {c : Cf} {ad : Addr} {fd : FuncData} (F : FunD c.K "__init__" "Way.__init__" (defArgs (inClass (top 41) 1)) (defBody (inClass (top 41) 1)) (defScope (inClass (top 41) 1)) [] [("number", .str "raw"), ("above", .str "raw"), ("below", .str "raw"), ("end", .str "raw")] ad fd) : KBn c.K fd ["self", "number", "above", "below", "end"] 1 ["number", "above", "below", "end"] (fun us ws => kg_Way_init us (F.kbinds0 (ps := ["self", "number", "above", "below", "end"]) 1 ["number", "above", "below", "end"] [] kg_Way_init (by simp) (by intro q hq; cases hq) kgr_Way_init fun D doc pm an cdv ct us mv ws hl hm hk => match us, mv, ws, hl, hm, hk with
    | [_], [], [_, _, _, _], _, _, _ => rfl).choose ws) (fun vs zs => kg_Way_init vs [] zs) := (F.kbinds0 (ps := ["self", "number", "above", "below", "end"]) 1 ["number", "above", "below", "end"] [] kg_Way_init (by simp) (by intro q hq; cases hq) kgr_Way_init fun D doc pm an cdv ct us mv ws hl hm hk => match us, mv, ws, hl, hm, hk with
    | [_], [], [_, _, _, _], _, _, _ => rfl).choose_spec
theorem kv_Way_init {c : Cf} : ∀ (Ψ : Wd) (v : V) (zs : List V) (ds : List D), Reps c Ψ zs ds → zs.length = (["number", "above", "below", "end"] : List Str).length → ∃ ws, (fun vs zs => kg_Way_init vs [] zs) [v] zs = v :: ws ∧ Reps c Ψ ws (kd_Way_init ds) := by
  intro Ψ v zs ds r h
  cases r with
  | nil => (simp at h)
  | cons z0 zt0 =>
    cases zt0 with
    | nil => (simp at h)
    | cons z1 zt1 =>
      cases zt1 with
      | nil => (simp at h)
      | cons z2 zt2 =>
        cases zt2 with
        | nil => (simp at h)
        | cons z3 zt3 =>
          cases zt3 with
          | cons _ _ => (simp at h)
          | nil =>
            exact ⟨_, rfl, (.cons z0 (.cons z1 (.cons z2 (.cons z3 .nil))))⟩
def kg_Way_init_0 {α : Type} (us mv ws : List α) : List α := match us, mv, ws with
  | [u], [m0, m1, m2, m3], [] => [u, m0, m1, m2, m3]
  | _, _, _ => []
theorem kgr_Way_init_0 {vs mz zs : List V} {us mv ws : List Value} (r1 : Vals vs us) (r2 : Vals mz mv) (r3 : Vals zs ws) : Vals (kg_Way_init_0 vs mz zs) (kg_Way_init_0 us mv ws) := by
  cases r1 with
  | nil => exact .nil
  | cons u0 ut0 =>
    cases ut0 with
    | cons _ _ => exact .nil
    | nil =>
      cases r2 with
      | nil => exact .nil
      | cons m0 mt0 =>
        cases mt0 with
        | nil => exact .nil
        | cons m1 mt1 =>
          cases mt1 with
          | nil => exact .nil
          | cons m2 mt2 =>
            cases mt2 with
            | nil => exact .nil
            | cons m3 mt3 =>
              cases mt3 with
              | cons _ _ => exact .nil
              | nil =>
                cases r3 with
                | cons _ _ => exact .nil
                | nil =>
                  exact .cons u0 (.cons m0 (.cons m1 (.cons m2 (.cons m3 .nil))))
theorem kb_Way_init_0 {c : Cf} {ad : Addr} {fd : FuncData} (F : FunD c.K "__init__" "Way.__init__" (defArgs (inClass (top 41) 1)) (defBody (inClass (top 41) 1)) (defScope (inClass (top 41) 1)) [] [("number", .str "raw"), ("above", .str "raw"), ("below", .str "raw"), ("end", .str "raw")] ad fd) : KBn c.K fd ["self", "number", "above", "below", "end"] 1 [] (fun us ws => kg_Way_init_0 us (F.kbinds0 (ps := ["self", "number", "above", "below", "end"]) 1 [] [("number", .str "raw"), ("above", .str "raw"), ("below", .str "raw"), ("end", .str "raw")] kg_Way_init_0 (by simp) (by intro q hq; simp only [List.mem_cons, List.not_mem_nil, or_false] at hq ⊢; rcases hq with rfl | rfl | rfl | rfl <;> simp) kgr_Way_init_0 fun D doc pm an cdv ct us mv ws hl hm hk => match us, mv, ws, hl, hm, hk with
    | [_], [_, _, _, _], [], _, _, _ => ⟨_, _, _, _, _, _, rfl, rfl, ⟨_, _, _, _, _, _, rfl, rfl, ⟨_, _, _, _, _, _, rfl, rfl, ⟨_, _, _, _, _, _, rfl, rfl, rfl⟩⟩⟩⟩).choose ws) (fun vs zs => kg_Way_init_0 vs [.str "raw", .str "raw", .str "raw", .str "raw"] zs) := (F.kbinds0 (ps := ["self", "number", "above", "below", "end"]) 1 [] [("number", .str "raw"), ("above", .str "raw"), ("below", .str "raw"), ("end", .str "raw")] kg_Way_init_0 (by simp) (by intro q hq; simp only [List.mem_cons, List.not_mem_nil, or_false] at hq ⊢; rcases hq with rfl | rfl | rfl | rfl <;> simp) kgr_Way_init_0 fun D doc pm an cdv ct us mv ws hl hm hk => match us, mv, ws, hl, hm, hk with
    | [_], [_, _, _, _], [], _, _, _ => ⟨_, _, _, _, _, _, rfl, rfl, ⟨_, _, _, _, _, _, rfl, rfl, ⟨_, _, _, _, _, _, rfl, rfl, ⟨_, _, _, _, _, _, rfl, rfl, rfl⟩⟩⟩⟩).choose_spec
theorem kv_Way_init_0 {c : Cf} : ∀ (Ψ : Wd) (v : V) (zs : List V) (ds : List D), Reps c Ψ zs ds → zs.length = ([] : List Str).length → ∃ ws, (fun vs zs => kg_Way_init_0 vs [.str "raw", .str "raw", .str "raw", .str "raw"] zs) [v] zs = v :: ws ∧ Reps c Ψ ws (kd_Way_init_0 ds) := by
  intro Ψ v zs ds r h
  cases r with
  | cons _ _ => (simp at h)
  | nil =>
    exact ⟨_, rfl, (.cons (.str _) (.cons (.str _) (.cons (.str _) (.cons (.str _) .nil))))⟩
def kg_Way_init_1 {α : Type} (us mv ws : List α) : List α := match us, mv, ws with
  | [u], [m0, m1, m2], [z0] => [u, m0, m1, m2, z0]
  | _, _, _ => []
theorem kgr_Way_init_1 {vs mz zs : List V} {us mv ws : List Value} (r1 : Vals vs us) (r2 : Vals mz mv) (r3 : Vals zs ws) : Vals (kg_Way_init_1 vs mz zs) (kg_Way_init_1 us mv ws) := by
  cases r1 with
  | nil => exact .nil
  | cons u0 ut0 =>
    cases ut0 with
    | cons _ _ => exact .nil
    | nil =>
      cases r2 with
      | nil => exact .nil
      | cons m0 mt0 =>
        cases mt0 with
        | nil => exact .nil
        | cons m1 mt1 =>
          cases mt1 with
          | nil => exact .nil
          | cons m2 mt2 =>
            cases mt2 with
            | cons _ _ => exact .nil
            | nil =>
              cases r3 with
              | nil => exact .nil
              | cons z0 zt0 =>
                cases zt0 with
                | cons _ _ => exact .nil
                | nil =>
                  exact .cons u0 (.cons m0 (.cons m1 (.cons m2 (.cons z0 .nil))))
theorem kb_Way_init_1 {c : Cf} {ad : Addr} {fd : FuncData} (F : FunD c.K "__init__" "Way.__init__" (defArgs (inClass (top 41) 1)) (defBody (inClass (top 41) 1)) (defScope (inClass (top 41) 1)) [] [("number", .str "raw"), ("above", .str "raw"), ("below", .str "raw"), ("end", .str "raw")] ad fd) : KBn c.K fd ["self", "number", "above", "below", "end"] 1 ["end"] (fun us ws => kg_Way_init_1 us (F.kbinds0 (ps := ["self", "number", "above", "below", "end"]) 1 ["end"] [("number", .str "raw"), ("above", .str "raw"), ("below", .str "raw")] kg_Way_init_1 (by simp) (by intro q hq; simp only [List.mem_cons, List.not_mem_nil, or_false] at hq ⊢; rcases hq with rfl | rfl | rfl <;> simp) kgr_Way_init_1 fun D doc pm an cdv ct us mv ws hl hm hk => match us, mv, ws, hl, hm, hk with
    | [_], [_, _, _], [_], _, _, _ => ⟨_, _, _, _, _, _, rfl, rfl, ⟨_, _, _, _, _, _, rfl, rfl, ⟨_, _, _, _, _, _, rfl, rfl, rfl⟩⟩⟩).choose ws) (fun vs zs => kg_Way_init_1 vs [.str "raw", .str "raw", .str "raw"] zs) := (F.kbinds0 (ps := ["self", "number", "above", "below", "end"]) 1 ["end"] [("number", .str "raw"), ("above", .str "raw"), ("below", .str "raw")] kg_Way_init_1 (by simp) (by intro q hq; simp only [List.mem_cons, List.not_mem_nil, or_false] at hq ⊢; rcases hq with rfl | rfl | rfl <;> simp) kgr_Way_init_1 fun D doc pm an cdv ct us mv ws hl hm hk => match us, mv, ws, hl, hm, hk with
    | [_], [_, _, _], [_], _, _, _ => ⟨_, _, _, _, _, _, rfl, rfl, ⟨_, _, _, _, _, _, rfl, rfl, ⟨_, _, _, _, _, _, rfl, rfl, rfl⟩⟩⟩).choose_spec
theorem kv_Way_init_1 {c : Cf} : ∀ (Ψ : Wd) (v : V) (zs : List V) (ds : List D), Reps c Ψ zs ds → zs.length = (["end"] : List Str).length → ∃ ws, (fun vs zs => kg_Way_init_1 vs [.str "raw", .str "raw", .str "raw"] zs) [v] zs = v :: ws ∧ Reps c Ψ ws (kd_Way_init_1 ds) := by
  intro Ψ v zs ds r h
  cases r with
  | nil => (simp at h)
  | cons z0 zt0 =>
    cases zt0 with
    | cons _ _ => (simp at h)
    | nil =>
      exact ⟨_, rfl, (.cons (.str _) (.cons (.str _) (.cons (.str _) (.cons z0 .nil))))⟩
def kg_Way_init_2 {α : Type} (us mv ws : List α) : List α := match us, mv, ws with
  | [u], [m0, m1, m2], [z0] => [u, z0, m0, m1, m2]
  | _, _, _ => []
theorem kgr_Way_init_2 {vs mz zs : List V} {us mv ws : List Value} (r1 : Vals vs us) (r2 : Vals mz mv) (r3 : Vals zs ws) : Vals (kg_Way_init_2 vs mz zs) (kg_Way_init_2 us mv ws) := by
  cases r1 with
  | nil => exact .nil
  | cons u0 ut0 =>
    cases ut0 with
    | cons _ _ => exact .nil
    | nil =>
      cases r2 with
      | nil => exact .nil
      | cons m0 mt0 =>
        cases mt0 with
        | nil => exact .nil
        | cons m1 mt1 =>
          cases mt1 with
          | nil => exact .nil
          | cons m2 mt2 =>
            cases mt2 with
            | cons _ _ => exact .nil
            | nil =>
              cases r3 with
              | nil => exact .nil
              | cons z0 zt0 =>
                cases zt0 with
                | cons _ _ => exact .nil
                | nil =>
                  exact .cons u0 (.cons z0 (.cons m0 (.cons m1 (.cons m2 .nil))))
theorem kb_Way_init_2 {c : Cf} {ad : Addr} {fd : FuncData} (F : FunD c.K "__init__" "Way.__init__" (defArgs (inClass (top 41) 1)) (defBody (inClass (top 41) 1)) (defScope (inClass (top 41) 1)) [] [("number", .str "raw"), ("above", .str "raw"), ("below", .str "raw"), ("end", .str "raw")] ad fd) : KBn c.K fd ["self", "number", "above", "below", "end"] 1 ["number"] (fun us ws => kg_Way_init_2 us (F.kbinds0 (ps := ["self", "number", "above", "below", "end"]) 1 ["number"] [("above", .str "raw"), ("below", .str "raw"), ("end", .str "raw")] kg_Way_init_2 (by simp) (by intro q hq; simp only [List.mem_cons, List.not_mem_nil, or_false] at hq ⊢; rcases hq with rfl | rfl | rfl <;> simp) kgr_Way_init_2 fun D doc pm an cdv ct us mv ws hl hm hk => match us, mv, ws, hl, hm, hk with
    | [_], [_, _, _], [_], _, _, _ => ⟨_, _, _, _, _, _, rfl, rfl, ⟨_, _, _, _, _, _, rfl, rfl, ⟨_, _, _, _, _, _, rfl, rfl, rfl⟩⟩⟩).choose ws) (fun vs zs => kg_Way_init_2 vs [.str "raw", .str "raw", .str "raw"] zs) := (F.kbinds0 (ps := ["self", "number", "above", "below", "end"]) 1 ["number"] [("above", .str "raw"), ("below", .str "raw"), ("end", .str "raw")] kg_Way_init_2 (by simp) (by intro q hq; simp only [List.mem_cons, List.not_mem_nil, or_false] at hq ⊢; rcases hq with rfl | rfl | rfl <;> simp) kgr_Way_init_2 fun D doc pm an cdv ct us mv ws hl hm hk => match us, mv, ws, hl, hm, hk with
    | [_], [_, _, _], [_], _, _, _ => ⟨_, _, _, _, _, _, rfl, rfl, ⟨_, _, _, _, _, _, rfl, rfl, ⟨_, _, _, _, _, _, rfl, rfl, rfl⟩⟩⟩).choose_spec
theorem kv_Way_init_2 {c : Cf} : ∀ (Ψ : Wd) (v : V) (zs : List V) (ds : List D), Reps c Ψ zs ds → zs.length = (["number"] : List Str).length → ∃ ws, (fun vs zs => kg_Way_init_2 vs [.str "raw", .str "raw", .str "raw"] zs) [v] zs = v :: ws ∧ Reps c Ψ ws (kd_Way_init_2 ds) := by
  intro Ψ v zs ds r h
  cases r with
  | nil => (simp at h)
  | cons z0 zt0 =>
    cases zt0 with
    | cons _ _ => (simp at h)
    | nil =>
      exact ⟨_, rfl, (.cons z0 (.cons (.str _) (.cons (.str _) (.cons (.str _) .nil))))⟩
theorem kbp_Plan_init {c : Cf} {ad : Addr} {fd : FuncData} (F : FunD c.K "__init__" "Plan.__init__" (defArgs (inClass (top 48) 1)) (defBody (inClass (top 48) 1)) (defScope (inClass (top 48) 1)) [] [("most", .int 4)] ad fd) : KBn c.K fd ["self", "way", "words", "most"] 3 ["most"] (fun us ws => us ++ ws) (fun vs zs => vs ++ zs) := (F.kbinds0 (ps := ["self", "way", "words", "most"]) 3 ["most"] [] (fun us _ ws => us ++ ws) (by decide) (by intro q hq; cases hq) (fun r1 _ r3 => r1.append r3) fun D doc pm an cdv ct us mv ws hl hm hk => match us, mv, ws, hl, hm, hk with
    | [u0, u1, u2], [], [k0], _, _, _ => rfl).choose_spec
theorem dfl_Plan_init {c : Cf} {ad : Addr} {fd : FuncData} (F : FunD c.K "__init__" "Plan.__init__" (defArgs (inClass (top 48) 1)) (defBody (inClass (top 48) 1)) (defScope (inClass (top 48) 1)) [] [("most", .int 4)] ad fd) : ∃ ds, Vals [.int 4] ds ∧ Binds c.K fd ["self", "way", "words", "most"] ds := F.binds0 (ps := ["self", "way", "words", "most"]) 3 (by decide) rfl fun D doc pm an cdv ct us ks hl hk => match us, ks, hl, hk with
    | [u0, u1, u2], [k0], _, _ => ⟨_, _, _, _, _, _, rfl, rfl, rfl⟩
section
variable {c : Cf} {P : Program} {w : World} {mg : Str → Option Value} {base : Heap}
theorem sc_is_label : FnScope ["thing"] ["thing"] (defScope (top 17)) := ⟨rfl, rfl, rfl, by decide +kernel, rfl, by decide +kernel, by decide +kernel⟩
theorem F_is_label (T : Fc c w mg) : ∃ ad, mg "is_label" = some (.ref ad) ∧ Fn c P w mg base 1 ad 1 m_is_label := by
  have h_str := T.g_str
  have h_isinstance := T.g_isinstance
  obtain ⟨_, h_LETTERS⟩ := T.g_LETTERS
  have hC := T.C
  obtain ⟨ad, fd, hmg, F⟩ := T.f_is_label
  exact ⟨_, hmg, fn_mk (k := 0) F sc_is_label (F.bindsN fun _ _ _ _ _ _ us hl => match us, hl with | [_], _ => rfl) (fun cdv A outer s H E hr => by
    have sc := sc_is_label
    have hu := hr.units
    have hu1 := hu_of hr
    exact (sss_one (ss_ret (se_and (se_isi (sab_cons (sb_var rfl (i := 0)) (sab_cons (SE.sb (se_bltn (v := .ty "str") rfl (by rfl) h_str (by decide +kernel) rfl (fun _ => .ty _))) (sab_nil rfl))) h_isinstance) (se_and1 (se_in hu (sb_var rfl (i := 0)) (SE.sb (se_glob (v := .ref _) rfl (by rfl) h_LETTERS.1 rfl (h_LETTERS.2.rep (by decide))))))))))⟩
theorem sc_is_number : FnScope ["thing", "low", "high"] ["thing", "low", "high"] (defScope (top 16)) := ⟨rfl, rfl, rfl, by decide +kernel, rfl, by decide +kernel, by decide +kernel⟩
theorem F_is_number (T : Fc c w mg) : ∃ ad, mg "is_number" = some (.ref ad) ∧ Fn c P w mg base 1 ad 3 m_is_number := by
  have h_int := T.g_int
  have h_isinstance := T.g_isinstance
  have h_bool := T.g_bool
  have hC := T.C
  obtain ⟨ad, fd, hmg, F⟩ := T.f_is_number
  exact ⟨_, hmg, fn_mk (k := 0) F sc_is_number (F.bindsN fun _ _ _ _ _ _ us hl => match us, hl with | [_, _, _], _ => rfl) (fun cdv A outer s H E hr => by
    have sc := sc_is_number
    have hu := hr.units
    have hu1 := hu_of hr
    exact (sss_one (ss_ret (se_and (se_isi (sab_cons (sb_var rfl (i := 0)) (sab_cons (SE.sb (se_bltn (v := .ty "int") rfl (by rfl) h_int boot_int rfl (fun _ => .ty _))) (sab_nil rfl))) h_isinstance) (se_and (se_not (se_isi (sab_cons (sb_var rfl (i := 0)) (sab_cons (SE.sb (se_bltn (v := .ty "bool") rfl (by rfl) h_bool (by decide +kernel) rfl (fun _ => .ty _))) (sab_nil rfl))) h_isinstance)) (se_and1 (se_leLe (sb_var rfl (i := 1)) (sb_var rfl (i := 0)) (sb_var rfl (i := 2)))))))))⟩
theorem sc_is_pointer : FnScope ["thing"] ["thing"] (defScope (top 18)) := ⟨rfl, rfl, rfl, by decide +kernel, rfl, by decide +kernel, by decide +kernel⟩
theorem F_is_pointer (T : Fc c w mg) : ∃ ad, mg "is_pointer" = some (.ref ad) ∧ Fn c P w mg base 2 ad 1 m_is_pointer := by
  have h_tuple := T.g_tuple
  have h_isinstance := T.g_isinstance
  have h_len := T.g_len
  have h_str := T.g_str
  obtain ⟨_, h_MOST_NUMBER⟩ := T.g_MOST_NUMBER
  have hC := T.C
  obtain ⟨_, hg_is_label, G_is_label⟩ := F_is_label (P := P) (base := base) T
  obtain ⟨_, hg_is_number, G_is_number⟩ := F_is_number (P := P) (base := base) T
  obtain ⟨ad, fd, hmg, F⟩ := T.f_is_pointer
  exact ⟨_, hmg, fn_mk (k := 1) F sc_is_pointer (F.bindsN fun _ _ _ _ _ _ us hl => match us, hl with | [_], _ => rfl) (fun cdv A outer s H E hr => by
    have sc := sc_is_pointer
    have hu := hr.units
    have hu1 := hu_of hr
    exact (sss_cons (ss_if (SW.st (sw_or (st_not (st_val (se_isi (sab_cons (sb_var rfl (i := 0)) (sab_cons (SE.sb (se_bltn (v := .ty "tuple") rfl (by rfl) h_tuple boot_tuple rfl (fun _ => .ty _))) (sab_nil rfl))) h_isinstance))) (sw_or (st_ne hu (SE.sb (se_len (sab_cons (sb_var rfl (i := 0)) (sab_nil rfl)) h_len)) (SE.sb (se_int rfl))) (sw_or1 (st_not (st_val (se_isi (sab_cons (SE.sb (se_ix (sb_var rfl (i := 0)) (SE.sb (se_int rfl)))) (sab_cons (SE.sb (se_bltn (v := .ty "str") rfl (by rfl) h_str (by decide +kernel) rfl (fun _ => .ty _))) (sab_nil rfl))) h_isinstance))))))) (sss_one (ss_ret (se_bl rfl))) (sss_nil rfl))
    (sss_cons (ss_if (st_eq hu (SE.sb (se_ix (sb_var rfl (i := 0)) (SE.sb (se_int rfl)))) (SE.sb (se_str rfl))) (sss_one (ss_ret (se_call G_is_label (hr.mono (by decide)) hg_is_label tk_def (sa_cons (se_ix (sb_var rfl (i := 0)) (SE.sb (se_int rfl))) (sa_nil rfl))))) (sss_nil rfl))
    (sss_cons (ss_if (st_in hu (SE.sb (se_ix (sb_var rfl (i := 0)) (SE.sb (se_int rfl)))) (SE.sb (se_tup (sa_cons (se_str rfl) (sa_cons (se_str rfl) (sa_nil rfl)))))) (sss_one (ss_ret (se_call G_is_number (hr.mono (by decide)) hg_is_number tk_def (sa_cons (se_ix (sb_var rfl (i := 0)) (SE.sb (se_int rfl))) (sa_cons (se_int rfl) (sa_cons (se_glob rfl (by rfl) h_MOST_NUMBER.1 h_MOST_NUMBER.2 (fun _ => .int _)) (sa_nil rfl))))))) (sss_nil rfl))
    (sss_one (ss_ret (se_and (se_in hu (SE.sb (se_ix (sb_var rfl (i := 0)) (SE.sb (se_int rfl)))) (SE.sb (se_tup (sa_cons (se_str rfl) (sa_cons (se_str rfl) (sa_nil rfl)))))) (se_and1 (se_call G_is_number (hr.mono (by decide)) hg_is_number tk_def (sa_cons (se_ix (sb_var rfl (i := 0)) (SE.sb (se_int rfl))) (sa_cons (se_int rfl) (sa_cons (se_glob rfl (by rfl) h_MOST_NUMBER.1 h_MOST_NUMBER.2 (fun _ => .int _)) (sa_nil rfl)))))))))))))⟩
theorem sc_is_step : FnScope ["thing", "one"] ["thing"] (defScope (top 19)) := ⟨rfl, rfl, rfl, by decide +kernel, rfl, by decide +kernel, by decide +kernel⟩
theorem F_is_step (T : Fc c w mg) : ∃ ad, mg "is_step" = some (.ref ad) ∧ Fn c P w mg base 3 ad 1 m_is_step := by
  have h_tuple := T.g_tuple
  have h_isinstance := T.g_isinstance
  have h_len := T.g_len
  obtain ⟨_, h_MOST_POINTERS⟩ := T.g_MOST_POINTERS
  have h_all := T.g_all
  have hC := T.C
  obtain ⟨_, hg_is_label, G_is_label⟩ := F_is_label (P := P) (base := base) T
  obtain ⟨_, hg_is_pointer, G_is_pointer⟩ := F_is_pointer (P := P) (base := base) T
  obtain ⟨ad, fd, hmg, F⟩ := T.f_is_step
  exact ⟨_, hmg, fn_mk (k := 2) F sc_is_step (F.bindsN fun _ _ _ _ _ _ us hl => match us, hl with | [_], _ => rfl) (fun cdv A outer s H E hr => by
    have sc := sc_is_step
    have hu := hr.units
    have hu1 := hu_of hr
    exact (sss_cons (ss_if (SW.st (sw_or (st_not (st_val (se_isi (sab_cons (sb_var rfl (i := 0)) (sab_cons (SE.sb (se_bltn (v := .ty "tuple") rfl (by rfl) h_tuple boot_tuple rfl (fun _ => .ty _))) (sab_nil rfl))) h_isinstance))) (sw_or (st_ne hu (SE.sb (se_len (sab_cons (sb_var rfl (i := 0)) (sab_nil rfl)) h_len)) (SE.sb (se_int rfl))) (sw_or1 (st_not (SW.st (sw_or (st_isN (SE.sb (se_ix (sb_var rfl (i := 0)) (SE.sb (se_int rfl))))) (sw_or1 (st_val (se_call G_is_label (hr.mono (by decide)) hg_is_label tk_def (sa_cons (se_ix (sb_var rfl (i := 0)) (SE.sb (se_int rfl))) (sa_nil rfl)))))))))))) (sss_one (ss_ret (se_bl rfl))) (sss_nil rfl))
    (sss_cons (ss_if (SW.st (sw_or (st_not (st_val (se_isi (sab_cons (SE.sb (se_ix (sb_var rfl (i := 0)) (SE.sb (se_int rfl)))) (sab_cons (SE.sb (se_bltn (v := .ty "tuple") rfl (by rfl) h_tuple boot_tuple rfl (fun _ => .ty _))) (sab_nil rfl))) h_isinstance))) (sw_or1 (st_gt (SE.sb (se_len (sab_cons (SE.sb (se_ix (sb_var rfl (i := 0)) (SE.sb (se_int rfl)))) (sab_nil rfl)) h_len)) (SE.sb (se_glob rfl (by rfl) h_MOST_POINTERS.1 h_MOST_POINTERS.2 (fun _ => .int _))))))) (sss_one (ss_ret (se_bl rfl))) (sss_nil rfl))
    (sss_one (ss_ret (se_all (sab_cons (SE.sb (SN.se (sn_lc (own := [("one", 1)]) (t := (.one 1)) (SI.sic (si_seq (se_ix (sb_var rfl (i := 0)) (SE.sb (se_int rfl))))) sc.nd (blkOk_by (by kernel_rfl)) (by decide) (fun s H C cl fp => (sg_one (i := 1) sc.nd)) (fun s H C cl fp => sts_nil) (fun s H C cl fp => (se_call G_is_pointer (hr.mono (by decide)) hg_is_pointer tk_in (sa_cons (se_var rfl (i := 1)) (sa_nil rfl))))))) (sab_nil rfl)) h_all))))))⟩
theorem sc_Steps_init : FnScope ["self", "rows", "at", "row"] ["self", "rows"] (defScope (inClass (top 27) 1)) := ⟨rfl, rfl, rfl, by decide +kernel, rfl, by decide +kernel, by decide +kernel⟩
theorem F_Steps_init (T : Fc c w mg) : ∃ ad fd, Mk c.K (c.cls 0) ad ∧ FnOk P w c.K mg base (L2.CX P w) 4 ad fd ["self", "rows"] (PromI c 1 0 m_Steps_init) ∧ Binds c.K fd ["self", "rows"] [] := by
  have h_tuple := T.g_tuple
  have h_isinstance := T.g_isinstance
  have h_len := T.g_len
  obtain ⟨_, h_MOST_STEPS⟩ := T.g_MOST_STEPS
  have h_enumerate := T.g_enumerate
  obtain ⟨_, hs_Steps_line⟩ := T.s_Steps_line
  have hC := T.C
  obtain ⟨_, hg_is_step, G_is_step⟩ := F_is_step (P := P) (base := base) T
  obtain ⟨ad, fd, hM, F⟩ := T.f_Steps_init
  exact ⟨ad, fd, hM, initOk_mk (k := 3) F sc_Steps_init rfl (by decide) (fun cdv A outer s H E hr => by
    have sc := sc_Steps_init
    have hu := hr.units
    have hu1 := hu_of hr
    exact (sss_cons (ss_if (SW.st (sw_or (st_not (st_val (se_isi (sab_cons (sb_var rfl (i := 1)) (sab_cons (SE.sb (se_bltn (v := .ty "tuple") rfl (by rfl) h_tuple boot_tuple rfl (fun _ => .ty _))) (sab_nil rfl))) h_isinstance))) (sw_or1 (st_gt (SE.sb (se_len (sab_cons (sb_var rfl (i := 1)) (sab_nil rfl)) h_len)) (SE.sb (se_glob rfl (by rfl) h_MOST_STEPS.1 h_MOST_STEPS.2 (fun _ => .int _))))))) (sss_one (ss_never rfl)) (sss_nil rfl))
    (sss_cons (ss_for (t := (.tup [2, 3])) (si_enum (se_var rfl (i := 1)) h_enumerate) (sg_tup (sgs_cons (i := 2) (sgs_cons (i := 3) sgs_nil sc.nd) sc.nd)) (sss_one (ss_if (st_not (st_val (se_call G_is_step (hr.mono (by decide)) hg_is_step tk_def (sa_cons (se_var rfl (i := 3)) (sa_nil rfl))))) (sss_one (ss_never rfl)) (sss_nil rfl))) pa_def)
    (sss_one (ss_self (k := 0) (i := 0) (se_var rfl (i := 1)) (hC.sc 0 (by decide)) hs_Steps_line))))), (F.bindsN fun _ _ _ _ _ _ us hl => match us, hl with | [_, _], _ => rfl)⟩
theorem sc_Steps_of : FnScope ["cls", "rows"] ["cls", "rows"] (defScope (inClass (top 27) 2)) := ⟨rfl, rfl, rfl, by decide +kernel, rfl, by decide +kernel, by decide +kernel⟩
theorem F_Steps_of (T : Fc c w mg) : ∃ p ad, CMetX c.K (c.cls 0) "of" p ad ∧ FnS c P w mg base 6 ad m_Steps_of := by
  have hC := T.C
  obtain ⟨_, _, mk_Steps, G_Steps_init⟩ := F_Steps_init (P := P) (base := base) T
  obtain ⟨p, ad, fd, hP, F⟩ := T.f_Steps_of
  exact ⟨p, ad, hP, fnS_mk (pc := "cls") (pv := "rows") (k := 5) F sc_Steps_of (fun _ _ _ _ _ _ _ => rfl) (fun _ _ _ _ _ _ _ _ _ => rfl) (fun cdv A outer s H E hr => by
    have sc := sc_Steps_of
    have hu := hr.units
    have hu1 := hu_of hr
    exact (sss_one (ss_ret (se_makeL (kc := 0) (i := 0) mk_Steps G_Steps_init.1 G_Steps_init.2 (hr.mono (by decide)) tk_def (sa_cons (se_var rfl (i := 1)) (sa_nil rfl))))))⟩
theorem sc__law_list : FnScope ["_law_last"] [] (defScope (top 85)) := ⟨rfl, rfl, rfl, by decide +kernel, rfl, by decide +kernel, by decide +kernel⟩
theorem F__law_list (T : Fc c w mg) : ∃ ad, mg "_law_list" = some (.ref ad) ∧ Fn c P w mg base 7 ad 0 m__law_list := by
  have h_Steps := T.g_Steps
  have hC := T.C
  obtain ⟨_, _, hcm_Steps_of, G_Steps_of⟩ := F_Steps_of (P := P) (base := base) T
  obtain ⟨ad, fd, hmg, F⟩ := T.f__law_list
  exact ⟨_, hmg, fn_mk (k := 6) F sc__law_list (F.bindsN fun _ _ _ _ _ _ us hl => match us, hl with | [], _ => rfl) (fun cdv A outer s H E hr => by
    have sc := sc__law_list
    have hu := hr.units
    have hu1 := hu_of hr
    exact (sss_cons (ss_set (i := 0) (se_tup (sa_cons (se_non rfl) (sa_cons (se_tup (sa_cons (se_tup (sa_cons (se_str rfl) (sa_cons (se_int rfl) (sa_nil rfl)))) (sa_nil rfl))) (sa_nil rfl)))) sc.nd)
    (sss_one (ss_ret (se_cmetS (kc := 0) h_Steps hcm_Steps_of G_Steps_of (hr.mono (by decide)) tk_def (sa_cons (se_tup (sa_cons (se_str rfl) (sa_cons (se_tup (sa_nil rfl)) (sa_nil rfl)))) (sa_cons (se_tup (sa_cons (se_non rfl) (sa_cons (se_tup (sa_cons (se_tup (sa_cons (se_str rfl) (sa_cons (se_int rfl) (sa_nil rfl)))) (sa_cons (se_tup (sa_cons (se_str rfl) (sa_cons (se_int rfl) (sa_nil rfl)))) (sa_nil rfl)))) (sa_nil rfl)))) (sa_cons (se_tup (sa_cons (se_non rfl) (sa_cons (se_tup (sa_cons (se_tup (sa_cons (se_str rfl) (sa_cons (se_int rfl) (sa_nil rfl)))) (sa_cons (se_tup (sa_cons (se_str rfl) (sa_cons (se_str rfl) (sa_nil rfl)))) (sa_nil rfl)))) (sa_nil rfl)))) (sa_cons (se_var rfl (i := 0)) (sa_nil rfl))))))))))⟩
theorem sc_is_word : FnScope ["thing"] ["thing"] (defScope (top 40)) := ⟨rfl, rfl, rfl, by decide +kernel, rfl, by decide +kernel, by decide +kernel⟩
theorem F_is_word (T : Fc c w mg) : ∃ ad, mg "is_word" = some (.ref ad) ∧ Fn c P w mg base 1 ad 1 m_is_word := by
  have h_str := T.g_str
  have h_isinstance := T.g_isinstance
  obtain ⟨_, h_RANKS⟩ := T.g_RANKS
  have hC := T.C
  obtain ⟨ad, fd, hmg, F⟩ := T.f_is_word
  exact ⟨_, hmg, fn_mk (k := 0) F sc_is_word (F.bindsN fun _ _ _ _ _ _ us hl => match us, hl with | [_], _ => rfl) (fun cdv A outer s H E hr => by
    have sc := sc_is_word
    have hu := hr.units
    have hu1 := hu_of hr
    exact (sss_one (ss_ret (se_and (se_isi (sab_cons (sb_var rfl (i := 0)) (sab_cons (SE.sb (se_bltn (v := .ty "str") rfl (by rfl) h_str (by decide +kernel) rfl (fun _ => .ty _))) (sab_nil rfl))) h_isinstance) (se_and1 (se_inKD h_RANKS.2 (by rfl) h_RANKS.1 (se_var rfl (i := 0))))))))⟩
theorem sc_Way_init : FnScope ["self", "number", "above", "below", "end", "one"] ["self", "number", "above", "below", "end"] (defScope (inClass (top 41) 1)) := ⟨rfl, rfl, rfl, by decide +kernel, rfl, by decide +kernel, by decide +kernel⟩
theorem F_Way_init (T : Fc c w mg) : ∃ ad fd, Mk c.K (c.cls 1) ad ∧ FnOk P w c.K mg base (L2.CX P w) 2 ad fd ["self", "number", "above", "below", "end"] (PromI c 4 1 m_Way_init) ∧ FunD c.K "__init__" "Way.__init__" (defArgs (inClass (top 41) 1)) (defBody (inClass (top 41) 1)) (defScope (inClass (top 41) 1)) [] [("number", .str "raw"), ("above", .str "raw"), ("below", .str "raw"), ("end", .str "raw")] ad fd := by
  have h_all := T.g_all
  obtain ⟨_, hs_Way_line⟩ := T.s_Way_line
  have hC := T.C
  obtain ⟨_, hg_is_word, G_is_word⟩ := F_is_word (P := P) (base := base) T
  obtain ⟨ad, fd, hM, F⟩ := T.f_Way_init
  exact ⟨ad, fd, hM, initOk_mk (k := 1) F sc_Way_init rfl (by decide) (fun cdv A outer s H E hr => by
    have sc := sc_Way_init
    have hu := hr.units
    have hu1 := hu_of hr
    exact (sss_cons (ss_if (st_not (st_val (se_all (sab_cons (SE.sb (SN.se (sn_lc (own := [("one", 5)]) (t := (.one 5)) (SI.sic (si_seq (se_tup (sa_cons (se_var rfl (i := 1)) (sa_cons (se_var rfl (i := 2)) (sa_cons (se_var rfl (i := 3)) (sa_cons (se_var rfl (i := 4)) (sa_nil rfl)))))))) sc.nd (blkOk_by (by kernel_rfl)) (by decide) (fun s H C cl fp => (sg_one (i := 5) sc.nd)) (fun s H C cl fp => sts_nil) (fun s H C cl fp => (se_call G_is_word (hr.mono (by decide)) hg_is_word tk_in (sa_cons (se_var rfl (i := 5)) (sa_nil rfl))))))) (sab_nil rfl)) h_all))) (sss_one (ss_never rfl)) (sss_nil rfl))
    (sss_one (ss_self (k := 1) (i := 0) (se_tup (sa_cons (se_var rfl (i := 1)) (sa_cons (se_var rfl (i := 2)) (sa_cons (se_var rfl (i := 3)) (sa_cons (se_var rfl (i := 4)) (sa_nil rfl)))))) (hC.sc 1 (by decide)) hs_Way_line)))), F⟩
theorem sc_Way_every : FnScope ["word"] ["word"] (defScope (inClass (top 41) 2)) := ⟨rfl, rfl, rfl, by decide +kernel, rfl, by decide +kernel, by decide +kernel⟩
theorem F_Way_every (T : Fc c w mg) : ∃ p ad, SMet c.K (c.cls 1) "every" p ad ∧ Fn c P w mg base 4 ad 1 m_Way_every := by
  have h_Way := T.g_Way
  have hC := T.C
  obtain ⟨_, _, mk_Way, G_Way_init⟩ := F_Way_init (P := P) (base := base) T
  obtain ⟨p, ad, fd, hP, F⟩ := T.f_Way_every
  exact ⟨p, ad, hP, fn_mk (k := 3) F sc_Way_every (F.bindsN fun _ _ _ _ _ _ us hl => match us, hl with | [_], _ => rfl) (fun cdv A outer s H E hr => by
    have sc := sc_Way_every
    have hu := hr.units
    have hu1 := hu_of hr
    exact (sss_one (ss_ret (se_makeK (kc := 1) mk_Way G_Way_init.1 (kb_Way_init G_Way_init.2) kv_Way_init (hr.mono (by decide)) h_Way tk_def (sk_cons (se_var rfl (i := 0)) (sk_cons (se_var rfl (i := 0)) (sk_cons (se_var rfl (i := 0)) (sk_cons (se_var rfl (i := 0)) (sk_nil rfl)))))))))⟩
theorem sc_all_spots : FnScope ["rows", "place", "at", "row"] ["rows"] (defScope (top 23)) := ⟨rfl, rfl, rfl, by decide +kernel, rfl, by decide +kernel, by decide +kernel⟩
theorem F_all_spots (T : Fc c w mg) : ∃ ad, mg "all_spots" = some (.ref ad) ∧ Fn c P w mg base 1 ad 1 m_all_spots := by
  have h_enumerate := T.g_enumerate
  have h_len := T.g_len
  have h_range := T.g_range
  have hC := T.C
  obtain ⟨ad, fd, hmg, F⟩ := T.f_all_spots
  exact ⟨_, hmg, fn_mk (k := 0) F sc_all_spots (F.bindsN fun _ _ _ _ _ _ us hl => match us, hl with | [_], _ => rfl) (fun cdv A outer s H E hr => by
    have sc := sc_all_spots
    have hu := hr.units
    have hu1 := hu_of hr
    exact (sss_one (ss_ret (SN.se (sn_lc2 (own := [("at", 2), ("row", 3), ("place", 1)]) (t := (.tup [2, 3])) (t1 := (.one 1)) (vs1 := [1]) (SI.sic (si_enum (se_var rfl (i := 0)) h_enumerate)) sc.nd (blkOk_by (by kernel_rfl)) (by decide) (by decide) (by decide) (fun s H C cl fp => (sg_tup (sgs_cons (i := 2) (sgs_cons (i := 3) sgs_nil sc.nd) sc.nd))) (fun s H C cl fp => sts_nil) (fun s H C cl fp => (si_range1 (sa_cons (se_len (sab_cons (SE.sb (se_ix (sb_var rfl (i := 3)) (SE.sb (se_int rfl)))) (sab_nil rfl)) h_len) (sa_nil rfl)) h_range)) (fun s H C cl fp => (sg_one (i := 1) sc.nd)) (fun s H C cl fp => sts_nil) (fun s H C cl fp => (se_tup (sa_cons (se_var rfl (i := 2)) (sa_cons (se_var rfl (i := 1)) (sa_nil rfl))))))))))⟩
theorem sc_Steps_spots : FnScope ["self"] ["self"] (defScope (inClass (top 27) 9)) := ⟨rfl, rfl, rfl, by decide +kernel, rfl, by decide +kernel, by decide +kernel⟩
theorem F_Steps_spots (T : Fc c w mg) : ∃ ad, Meth c.K (c.cls 0) "spots" ad ∧ Fn c P w mg base 2 ad 1 m_Steps_spots := by
  obtain ⟨_, hs_Steps_line⟩ := T.s_Steps_line
  have hC := T.C
  obtain ⟨_, hg_all_spots, G_all_spots⟩ := F_all_spots (P := P) (base := base) T
  obtain ⟨ad, fd, hmg, F⟩ := T.f_Steps_spots
  exact ⟨_, hmg, fn_mk (k := 1) F sc_Steps_spots (F.bindsN fun _ _ _ _ _ _ us hl => match us, hl with | [_], _ => rfl) (fun cdv A outer s H E hr => by
    have sc := sc_Steps_spots
    have hu := hr.units
    have hu1 := hu_of hr
    exact (sss_one (ss_ret (se_call G_all_spots (hr.mono (by decide)) hg_all_spots tk_def (sa_cons (se_attr (k := 0) (i := 0) (se_var rfl (i := 0)) (hC.sc 0 (by decide)) hs_Steps_line) (sa_nil rfl))))))⟩
theorem sc_first_with : FnScope ["rows", "label", "at", "row"] ["rows", "label"] (defScope (top 21)) := ⟨rfl, rfl, rfl, by decide +kernel, rfl, by decide +kernel, by decide +kernel⟩
theorem F_first_with (T : Fc c w mg) : ∃ ad, mg "first_with" = some (.ref ad) ∧ Fn c P w mg base 1 ad 2 m_first_with := by
  have h_enumerate := T.g_enumerate
  have hC := T.C
  obtain ⟨ad, fd, hmg, F⟩ := T.f_first_with
  exact ⟨_, hmg, fn_mk (k := 0) F sc_first_with (F.bindsN fun _ _ _ _ _ _ us hl => match us, hl with | [_, _], _ => rfl) (fun cdv A outer s H E hr => by
    have sc := sc_first_with
    have hu := hr.units
    have hu1 := hu_of hr
    exact (sss_cons (ss_for (t := (.tup [2, 3])) (si_enum (se_var rfl (i := 0)) h_enumerate) (sg_tup (sgs_cons (i := 2) (sgs_cons (i := 3) sgs_nil sc.nd) sc.nd)) (sss_one (ss_if (st_eq hu (SE.sb (se_ix (sb_var rfl (i := 3)) (SE.sb (se_int rfl)))) (sb_var rfl (i := 1))) (sss_one (ss_ret (se_var rfl (i := 2)))) (sss_nil rfl))) pa_def)
    (sss_one (ss_ret (se_non rfl)))))⟩
theorem sc_meaning : FnScope ["rows", "at", "pointer", "kind", "number", "spot"] ["rows", "at", "pointer"] (defScope (top 22)) := ⟨rfl, rfl, rfl, by decide +kernel, rfl, by decide +kernel, by decide +kernel⟩
theorem F_meaning (T : Fc c w mg) : ∃ ad, mg "meaning" = some (.ref ad) ∧ Fn c P w mg base 2 ad 3 m_meaning := by
  have h_len := T.g_len
  have hC := T.C
  obtain ⟨_, hg_first_with, G_first_with⟩ := F_first_with (P := P) (base := base) T
  obtain ⟨ad, fd, hmg, F⟩ := T.f_meaning
  exact ⟨_, hmg, fn_mk (k := 1) F sc_meaning (F.bindsN fun _ _ _ _ _ _ us hl => match us, hl with | [_, _, _], _ => rfl) (fun cdv A outer s H E hr => by
    have sc := sc_meaning
    have hu := hr.units
    have hu1 := hu_of hr
    exact (sss_cons (ss_asgT (t := (.tup [3, 4])) (se_var rfl (i := 2)) (sg_tup (sgs_cons (i := 3) (sgs_cons (i := 4) sgs_nil sc.nd) sc.nd)))
    (sss_cons (ss_if (st_eq hu (sb_var rfl (i := 3)) (SE.sb (se_str rfl))) (sss_one (ss_ret (se_call G_first_with (hr.mono (by decide)) hg_first_with tk_def (sa_cons (se_var rfl (i := 0)) (sa_cons (se_var rfl (i := 4)) (sa_nil rfl)))))) (sss_nil rfl))
    (sss_cons (ss_if (st_eq hu (sb_var rfl (i := 3)) (SE.sb (se_str rfl))) (sss_one (ss_set (i := 5) (se_var rfl (i := 4)) sc.nd)) (sss_one (ss_if (st_eq hu (sb_var rfl (i := 3)) (SE.sb (se_str rfl))) (sss_one (ss_set (i := 5) (se_sub (SE.sb (se_sub (SE.sb (se_len (sab_cons (sb_var rfl (i := 0)) (sab_nil rfl)) h_len)) (SE.sb (se_int rfl)))) (sb_var rfl (i := 4))) sc.nd)) (sss_one (ss_set (i := 5) (se_if (st_eq hu (sb_var rfl (i := 3)) (SE.sb (se_str rfl))) (se_sub (sb_var rfl (i := 1)) (sb_var rfl (i := 4))) (se_add (sb_var rfl (i := 1)) (sb_var rfl (i := 4)))) sc.nd)))))
    (sss_one (ss_ret (se_if (st_leLt (SE.sb (se_int rfl)) (sb_var rfl (i := 5)) (SE.sb (se_len (sab_cons (sb_var rfl (i := 0)) (sab_nil rfl)) h_len))) (se_var rfl (i := 5)) (se_non rfl))))))))⟩
theorem sc_meant_at : FnScope ["rows", "spot"] ["rows", "spot"] (defScope (top 24)) := ⟨rfl, rfl, rfl, by decide +kernel, rfl, by decide +kernel, by decide +kernel⟩
theorem F_meant_at (T : Fc c w mg) : ∃ ad, mg "meant_at" = some (.ref ad) ∧ Fn c P w mg base 3 ad 2 m_meant_at := by
  have hC := T.C
  obtain ⟨_, hg_meaning, G_meaning⟩ := F_meaning (P := P) (base := base) T
  obtain ⟨ad, fd, hmg, F⟩ := T.f_meant_at
  exact ⟨_, hmg, fn_mk (k := 2) F sc_meant_at (F.bindsN fun _ _ _ _ _ _ us hl => match us, hl with | [_, _], _ => rfl) (fun cdv A outer s H E hr => by
    have sc := sc_meant_at
    have hu := hr.units
    have hu1 := hu_of hr
    exact (sss_one (ss_ret (se_call G_meaning (hr.mono (by decide)) hg_meaning tk_def (sa_cons (se_var rfl (i := 0)) (sa_cons (se_ix (sb_var rfl (i := 1)) (SE.sb (se_int rfl))) (sa_cons (se_ix (SE.sb (se_ix (SE.sb (se_ix (sb_var rfl (i := 0)) (SE.sb (se_ix (sb_var rfl (i := 1)) (SE.sb (se_int rfl)))))) (SE.sb (se_int rfl)))) (SE.sb (se_ix (sb_var rfl (i := 1)) (SE.sb (se_int rfl))))) (sa_nil rfl))))))))⟩
theorem sc_Steps_call : FnScope ["self", "spot", "one"] ["self", "spot"] (defScope (inClass (top 27) 8)) := ⟨rfl, rfl, rfl, by decide +kernel, rfl, by decide +kernel, by decide +kernel⟩
theorem F_Steps_call (T : Fc c w mg) : ∃ ad, Meth c.K (c.cls 0) "__call__" ad ∧ Fn c P w mg base 4 ad 2 m_Steps_call := by
  have h_tuple := T.g_tuple
  have h_isinstance := T.g_isinstance
  have h_len := T.g_len
  obtain ⟨_, h_MOST_STEPS⟩ := T.g_MOST_STEPS
  have h_all := T.g_all
  obtain ⟨_, hs_Steps_line⟩ := T.s_Steps_line
  have hC := T.C
  obtain ⟨_, hg_is_number, G_is_number⟩ := F_is_number (P := P) (base := base) T
  obtain ⟨_, hg_all_spots, G_all_spots⟩ := F_all_spots (P := P) (base := base) T
  obtain ⟨_, hg_meant_at, G_meant_at⟩ := F_meant_at (P := P) (base := base) T
  obtain ⟨ad, fd, hmg, F⟩ := T.f_Steps_call
  exact ⟨_, hmg, fn_mk (k := 3) F sc_Steps_call (F.bindsN fun _ _ _ _ _ _ us hl => match us, hl with | [_, _], _ => rfl) (fun cdv A outer s H E hr => by
    have sc := sc_Steps_call
    have hu := hr.units
    have hu1 := hu_of hr
    exact (sss_cons (ss_if (SW.st (sw_or (st_not (st_val (se_isi (sab_cons (sb_var rfl (i := 1)) (sab_cons (SE.sb (se_bltn (v := .ty "tuple") rfl (by rfl) h_tuple boot_tuple rfl (fun _ => .ty _))) (sab_nil rfl))) h_isinstance))) (sw_or (st_ne hu (SE.sb (se_len (sab_cons (sb_var rfl (i := 1)) (sab_nil rfl)) h_len)) (SE.sb (se_int rfl))) (sw_or1 (st_not (st_val (se_all (sab_cons (SE.sb (SN.se (sn_lc (own := [("one", 2)]) (t := (.one 2)) (SI.sic (si_seq (se_var rfl (i := 1)))) sc.nd (blkOk_by (by kernel_rfl)) (by decide) (fun s H C cl fp => (sg_one (i := 2) sc.nd)) (fun s H C cl fp => sts_nil) (fun s H C cl fp => (se_call G_is_number (hr.mono (by decide)) hg_is_number tk_in (sa_cons (se_var rfl (i := 2)) (sa_cons (se_int rfl) (sa_cons (se_glob rfl (by rfl) h_MOST_STEPS.1 h_MOST_STEPS.2 (fun _ => .int _)) (sa_nil rfl))))))))) (sab_nil rfl)) h_all))))))) (sss_one (ss_never rfl)) (sss_nil rfl))
    (sss_cons (ss_if (st_nin hu (sb_var rfl (i := 1)) (SE.sb (se_call G_all_spots (hr.mono (by decide)) hg_all_spots tk_def (sa_cons (se_attr (k := 0) (i := 0) (se_var rfl (i := 0)) (hC.sc 0 (by decide)) hs_Steps_line) (sa_nil rfl))))) (sss_one (ss_never rfl)) (sss_nil rfl))
    (sss_one (ss_ret (se_call G_meant_at (hr.mono (by decide)) hg_meant_at tk_def (sa_cons (se_attr (k := 0) (i := 0) (se_var rfl (i := 0)) (hC.sc 0 (by decide)) hs_Steps_line) (sa_cons (se_var rfl (i := 1)) (sa_nil rfl)))))))))⟩
theorem sc_are_whole : FnScope ["rows", "spot"] ["rows"] (defScope (top 25)) := ⟨rfl, rfl, rfl, by decide +kernel, rfl, by decide +kernel, by decide +kernel⟩
theorem F_are_whole (T : Fc c w mg) : ∃ ad, mg "are_whole" = some (.ref ad) ∧ Fn c P w mg base 4 ad 1 m_are_whole := by
  have h_all := T.g_all
  have hC := T.C
  obtain ⟨_, hg_all_spots, G_all_spots⟩ := F_all_spots (P := P) (base := base) T
  obtain ⟨_, hg_meant_at, G_meant_at⟩ := F_meant_at (P := P) (base := base) T
  obtain ⟨ad, fd, hmg, F⟩ := T.f_are_whole
  exact ⟨_, hmg, fn_mk (k := 3) F sc_are_whole (F.bindsN fun _ _ _ _ _ _ us hl => match us, hl with | [_], _ => rfl) (fun cdv A outer s H E hr => by
    have sc := sc_are_whole
    have hu := hr.units
    have hu1 := hu_of hr
    exact (sss_one (ss_ret (se_all (sab_cons (SE.sb (SN.se (sn_lc (own := [("spot", 1)]) (t := (.one 1)) (SI.sic (si_seq (se_call G_all_spots (hr.mono (by decide)) hg_all_spots tk_def (sa_cons (se_var rfl (i := 0)) (sa_nil rfl))))) sc.nd (blkOk_by (by kernel_rfl)) (by decide) (fun s H C cl fp => (sg_one (i := 1) sc.nd)) (fun s H C cl fp => sts_nil) (fun s H C cl fp => (se_notN (SE.sb (se_call G_meant_at (hr.mono (by decide)) hg_meant_at tk_in (sa_cons (se_var rfl (i := 0)) (sa_cons (se_var rfl (i := 1)) (sa_nil rfl)))))))))) (sab_nil rfl)) h_all))))⟩
theorem sc_Steps_is_whole : FnScope ["self"] ["self"] (defScope (inClass (top 27) 10)) := ⟨rfl, rfl, rfl, by decide +kernel, rfl, by decide +kernel, by decide +kernel⟩
theorem F_Steps_is_whole (T : Fc c w mg) : ∃ ad, Meth c.K (c.cls 0) "is_whole" ad ∧ Fn c P w mg base 5 ad 1 m_Steps_is_whole := by
  obtain ⟨_, hs_Steps_line⟩ := T.s_Steps_line
  have hC := T.C
  obtain ⟨_, hg_are_whole, G_are_whole⟩ := F_are_whole (P := P) (base := base) T
  obtain ⟨ad, fd, hmg, F⟩ := T.f_Steps_is_whole
  exact ⟨_, hmg, fn_mk (k := 4) F sc_Steps_is_whole (F.bindsN fun _ _ _ _ _ _ us hl => match us, hl with | [_], _ => rfl) (fun cdv A outer s H E hr => by
    have sc := sc_Steps_is_whole
    have hu := hr.units
    have hu1 := hu_of hr
    exact (sss_one (ss_ret (se_call G_are_whole (hr.mono (by decide)) hg_are_whole tk_def (sa_cons (se_attr (k := 0) (i := 0) (se_var rfl (i := 0)) (hC.sc 0 (by decide)) hs_Steps_line) (sa_nil rfl))))))⟩
theorem sc_check_steps : FnScope ["thing"] ["thing"] (defScope (top 28)) := ⟨rfl, rfl, rfl, by decide +kernel, rfl, by decide +kernel, by decide +kernel⟩
theorem F_check_steps (T : Fc c w mg) : ∃ ad, mg "check_steps" = some (.ref ad) ∧ Fn c P w mg base 1 ad 1 m_check_steps := by
  have h_Steps := T.g_Steps
  have h_isinstance := T.g_isinstance
  have hC := T.C
  obtain ⟨ad, fd, hmg, F⟩ := T.f_check_steps
  exact ⟨_, hmg, fn_mk (k := 0) F sc_check_steps (F.bindsN fun _ _ _ _ _ _ us hl => match us, hl with | [_], _ => rfl) (fun cdv A outer s H E hr => by
    have sc := sc_check_steps
    have hu := hr.units
    have hu1 := hu_of hr
    exact (sss_one (ss_if (st_not (st_val (se_iso hC (sab_cons (sb_var rfl (i := 0)) (sab_cons (SE.sb (se_glob (v := .ref (c.cls 0)) rfl (by rfl) h_Steps rfl (fun _ => .cls _))) (sab_nil rfl))) h_isinstance))) (sss_one (ss_never rfl)) (sss_nil rfl))))⟩
theorem sc_are_rows : FnScope ["thing", "one"] ["thing"] (defScope (top 20)) := ⟨rfl, rfl, rfl, by decide +kernel, rfl, by decide +kernel, by decide +kernel⟩
theorem F_are_rows (T : Fc c w mg) : ∃ ad, mg "are_rows" = some (.ref ad) ∧ Fn c P w mg base 4 ad 1 m_are_rows := by
  have h_tuple := T.g_tuple
  have h_isinstance := T.g_isinstance
  have h_len := T.g_len
  obtain ⟨_, h_MOST_STEPS⟩ := T.g_MOST_STEPS
  have h_all := T.g_all
  have hC := T.C
  obtain ⟨_, hg_is_step, G_is_step⟩ := F_is_step (P := P) (base := base) T
  obtain ⟨ad, fd, hmg, F⟩ := T.f_are_rows
  exact ⟨_, hmg, fn_mk (k := 3) F sc_are_rows (F.bindsN fun _ _ _ _ _ _ us hl => match us, hl with | [_], _ => rfl) (fun cdv A outer s H E hr => by
    have sc := sc_are_rows
    have hu := hr.units
    have hu1 := hu_of hr
    exact (sss_one (ss_ret (se_and (se_isi (sab_cons (sb_var rfl (i := 0)) (sab_cons (SE.sb (se_bltn (v := .ty "tuple") rfl (by rfl) h_tuple boot_tuple rfl (fun _ => .ty _))) (sab_nil rfl))) h_isinstance) (se_and (se_le (SE.sb (se_len (sab_cons (sb_var rfl (i := 0)) (sab_nil rfl)) h_len)) (SE.sb (se_glob rfl (by rfl) h_MOST_STEPS.1 h_MOST_STEPS.2 (fun _ => .int _)))) (se_and1 (se_all (sab_cons (SE.sb (SN.se (sn_lc (own := [("one", 1)]) (t := (.one 1)) (SI.sic (si_seq (se_var rfl (i := 0)))) sc.nd (blkOk_by (by kernel_rfl)) (by decide) (fun s H C cl fp => (sg_one (i := 1) sc.nd)) (fun s H C cl fp => sts_nil) (fun s H C cl fp => (se_call G_is_step (hr.mono (by decide)) hg_is_step tk_in (sa_cons (se_var rfl (i := 1)) (sa_nil rfl))))))) (sab_nil rfl)) h_all)))))))⟩
theorem sc_is_edit : FnScope ["rows", "edit", "many", "numbers"] ["rows", "edit"] (defScope (top 32)) := ⟨rfl, rfl, rfl, by decide +kernel, rfl, by decide +kernel, by decide +kernel⟩
theorem F_is_edit (T : Fc c w mg) : ∃ ad, mg "is_edit" = some (.ref ad) ∧ Fn c P w mg base 5 ad 2 m_is_edit := by
  have h_tuple := T.g_tuple
  have h_isinstance := T.g_isinstance
  have h_len := T.g_len
  have h_str := T.g_str
  obtain ⟨_, h_MOST_STEPS⟩ := T.g_MOST_STEPS
  have hC := T.C
  obtain ⟨_, hg_are_rows, G_are_rows⟩ := F_are_rows (P := P) (base := base) T
  obtain ⟨_, hg_is_number, G_is_number⟩ := F_is_number (P := P) (base := base) T
  obtain ⟨ad, fd, hmg, F⟩ := T.f_is_edit
  exact ⟨_, hmg, fn_mk (k := 4) F sc_is_edit (F.bindsN fun _ _ _ _ _ _ us hl => match us, hl with | [_, _], _ => rfl) (fun cdv A outer s H E hr => by
    have sc := sc_is_edit
    have hu := hr.units
    have hu1 := hu_of hr
    exact (sss_cons (ss_if (SW.st (sw_or (st_not (st_val (se_isi (sab_cons (sb_var rfl (i := 1)) (sab_cons (SE.sb (se_bltn (v := .ty "tuple") rfl (by rfl) h_tuple boot_tuple rfl (fun _ => .ty _))) (sab_nil rfl))) h_isinstance))) (sw_or (st_lt (SE.sb (se_len (sab_cons (sb_var rfl (i := 1)) (sab_nil rfl)) h_len)) (SE.sb (se_int rfl))) (sw_or1 (st_not (st_val (se_isi (sab_cons (SE.sb (se_ix (sb_var rfl (i := 1)) (SE.sb (se_int rfl)))) (sab_cons (SE.sb (se_bltn (v := .ty "str") rfl (by rfl) h_str (by decide +kernel) rfl (fun _ => .ty _))) (sab_nil rfl))) h_isinstance))))))) (sss_one (ss_ret (se_bl rfl))) (sss_nil rfl))
    (sss_cons (ss_parS (i := 2) (j := 3) (sam_val (se_len (sab_cons (sb_var rfl (i := 0)) (sab_nil rfl)) h_len) (sam_val (se_sliceT (sb_var rfl (i := 1)) (so_some (SE.sb (se_int rfl))) (so_none rfl)) (sam_nil rfl))) sc.nd)
    (sss_cons (ss_if (st_eq hu (SE.sb (se_ix (sb_var rfl (i := 1)) (SE.sb (se_int rfl)))) (SE.sb (se_str rfl))) (sss_one (ss_ret (se_and (se_eq hu (SE.sb (se_len (sab_cons (sb_var rfl (i := 1)) (sab_nil rfl)) h_len)) (SE.sb (se_int rfl))) (se_and (se_call G_are_rows (hr.mono (by decide)) hg_are_rows tk_def (sa_cons (se_ix (sb_var rfl (i := 1)) (SE.sb (se_int rfl))) (sa_nil rfl))) (se_and1 (se_le (SE.sb (se_add (sb_var rfl (i := 2)) (SE.sb (se_len (sab_cons (SE.sb (se_ix (sb_var rfl (i := 1)) (SE.sb (se_int rfl)))) (sab_nil rfl)) h_len)))) (SE.sb (se_glob rfl (by rfl) h_MOST_STEPS.1 h_MOST_STEPS.2 (fun _ => .int _))))))))) (sss_nil rfl))
    (sss_cons (ss_if (st_eq hu (SE.sb (se_ix (sb_var rfl (i := 1)) (SE.sb (se_int rfl)))) (SE.sb (se_str rfl))) (sss_one (ss_ret (se_and (se_eq hu (SE.sb (se_len (sab_cons (sb_var rfl (i := 1)) (sab_nil rfl)) h_len)) (SE.sb (se_int rfl))) (se_and (se_lt (sb_var rfl (i := 2)) (SE.sb (se_glob rfl (by rfl) h_MOST_STEPS.1 h_MOST_STEPS.2 (fun _ => .int _)))) (se_and1 (se_call G_is_number (hr.mono (by decide)) hg_is_number tk_def (sa_cons (se_ix (sb_var rfl (i := 1)) (SE.sb (se_int rfl))) (sa_cons (se_int rfl) (sa_cons (se_var rfl (i := 2)) (sa_nil rfl)))))))))) (sss_nil rfl))
    (sss_cons (ss_if (st_eq hu (SE.sb (se_ix (sb_var rfl (i := 1)) (SE.sb (se_int rfl)))) (SE.sb (se_str rfl))) (sss_one (ss_ret (se_and (se_eq hu (SE.sb (se_len (sab_cons (sb_var rfl (i := 1)) (sab_nil rfl)) h_len)) (SE.sb (se_int rfl))) (se_and1 (se_call G_is_number (hr.mono (by decide)) hg_is_number tk_def (sa_cons (se_ix (sb_var rfl (i := 1)) (SE.sb (se_int rfl))) (sa_cons (se_int rfl) (sa_cons (se_sub (sb_var rfl (i := 2)) (SE.sb (se_int rfl))) (sa_nil rfl))))))))) (sss_nil rfl))
    (sss_cons (ss_if (SW.st (sw_or (st_ne hu (SE.sb (se_len (sab_cons (sb_var rfl (i := 1)) (sab_nil rfl)) h_len)) (SE.sb (se_int rfl))) (sw_or1 (st_not (st_val (se_call G_is_number (hr.mono (by decide)) hg_is_number tk_def (sa_cons (se_ix (sb_var rfl (i := 1)) (SE.sb (se_int rfl))) (sa_cons (se_int rfl) (sa_cons (se_sub (sb_var rfl (i := 2)) (SE.sb (se_int rfl))) (sa_nil rfl)))))))))) (sss_one (ss_ret (se_bl rfl))) (sss_nil rfl))
    (sss_cons (ss_if (st_eq hu (SE.sb (se_ix (sb_var rfl (i := 1)) (SE.sb (se_int rfl)))) (SE.sb (se_str rfl))) (sss_one (ss_ret (se_and (se_call G_is_number (hr.mono (by decide)) hg_is_number tk_def (sa_cons (se_ix (sb_var rfl (i := 1)) (SE.sb (se_int rfl))) (sa_cons (se_int rfl) (sa_cons (se_sub (sb_var rfl (i := 2)) (SE.sb (se_int rfl))) (sa_nil rfl))))) (se_and1 (se_ne hu (SE.sb (se_ix (sb_var rfl (i := 1)) (SE.sb (se_int rfl)))) (SE.sb (se_ix (sb_var rfl (i := 1)) (SE.sb (se_int rfl))))))))) (sss_nil rfl))
    (sss_one (ss_ret (se_and (se_eq hu (SE.sb (se_ix (sb_var rfl (i := 1)) (SE.sb (se_int rfl)))) (SE.sb (se_str rfl))) (se_and (se_lt (sb_var rfl (i := 2)) (SE.sb (se_glob rfl (by rfl) h_MOST_STEPS.1 h_MOST_STEPS.2 (fun _ => .int _)))) (se_and1 (se_call G_is_number (hr.mono (by decide)) hg_is_number tk_def (sa_cons (se_ix (sb_var rfl (i := 3)) (SE.sb (se_int rfl))) (sa_cons (se_int rfl) (sa_cons (se_var rfl (i := 2)) (sa_nil rfl))))))))))))))))))⟩
theorem sc_Steps_rows : FnScope ["self"] ["self"] (defScope (inClass (top 27) 3)) := ⟨rfl, rfl, rfl, by decide +kernel, rfl, by decide +kernel, by decide +kernel⟩
theorem F_Steps_rows (T : Fc c w mg) : ∃ p ad, Prp c.K (c.cls 0) "rows" p ad ∧ Fn c P w mg base 1 ad 1 m_Steps_rows := by
  obtain ⟨_, hs_Steps_line⟩ := T.s_Steps_line
  have hC := T.C
  obtain ⟨p, ad, fd, hP, F⟩ := T.f_Steps_rows
  exact ⟨p, ad, hP, fn_mk (k := 0) F sc_Steps_rows (F.bindsN fun _ _ _ _ _ _ us hl => match us, hl with | [_], _ => rfl) (fun cdv A outer s H E hr => by
    have sc := sc_Steps_rows
    have hu := hr.units
    have hu1 := hu_of hr
    exact (sss_one (ss_ret (se_attr (k := 0) (i := 0) (se_var rfl (i := 0)) (hC.sc 0 (by decide)) hs_Steps_line))))⟩
theorem sc_sources : FnScope ["rows", "edit", "found", "at", "one"] ["rows", "edit"] (defScope (top 33)) := ⟨rfl, rfl, rfl, by decide +kernel, rfl, by decide +kernel, by decide +kernel⟩
theorem F_sources (T : Fc c w mg) : ∃ ad, mg "sources" = some (.ref ad) ∧ Fn c P w mg base 1 ad 2 m_sources := by
  have h_len := T.g_len
  have h_range := T.g_range
  have hC := T.C
  obtain ⟨ad, fd, hmg, F⟩ := T.f_sources
  exact ⟨_, hmg, fn_mk (k := 0) F sc_sources (F.bindsN fun _ _ _ _ _ _ us hl => match us, hl with | [_, _], _ => rfl) (fun cdv A outer s H E hr => by
    have sc := sc_sources
    have hu := hr.units
    have hu1 := hu_of hr
    exact (sss_cons (ss_setLc (i := 2) (own := [("at", 3)]) (t := (.one 3)) (SI.sic (si_range1 (sa_cons (se_len (sab_cons (sb_var rfl (i := 0)) (sab_nil rfl)) h_len) (sa_nil rfl)) h_range)) sc.nd (blkOk_by (by kernel_rfl)) (by decide) (fun s H C cl fp => (sg_one (i := 3) sc.nd)) (fun s H C cl fp => sts_nil) (fun s H C cl fp => (se_tup (sa_cons (se_str rfl) (sa_cons (se_var rfl (i := 3)) (sa_cons (se_bl rfl) (sa_nil rfl)))))))
    (sss_cons (ss_if (st_eq hu (SE.sb (se_ix (sb_var rfl (i := 1)) (SE.sb (se_int rfl)))) (SE.sb (se_str rfl))) (sss_one (ss_insert (i := 2) (sa_cons (se_ix (sb_var rfl (i := 1)) (SE.sb (se_int rfl))) (sa_cons (se_non rfl) (sa_nil rfl))))) (sss_one (ss_if (st_eq hu (SE.sb (se_ix (sb_var rfl (i := 1)) (SE.sb (se_int rfl)))) (SE.sb (se_str rfl))) (sss_one (ss_pop (i := 2) (se_ix (sb_var rfl (i := 1)) (SE.sb (se_int rfl))))) (sss_one (ss_if (st_eq hu (SE.sb (se_ix (sb_var rfl (i := 1)) (SE.sb (se_int rfl)))) (SE.sb (se_str rfl))) (sss_cons (ss_setPop (i := 2) (j := 4) (se_ix (sb_var rfl (i := 1)) (SE.sb (se_int rfl))) sc.nd)
    (sss_one (ss_insert (i := 2) (sa_cons (se_ix (sb_var rfl (i := 1)) (SE.sb (se_int rfl))) (sa_cons (se_var rfl (i := 4)) (sa_nil rfl)))))) (sss_one (ss_if (st_eq hu (SE.sb (se_ix (sb_var rfl (i := 1)) (SE.sb (se_int rfl)))) (SE.sb (se_str rfl))) (sss_one (ss_insert (i := 2) (sa_cons (se_ix (sb_var rfl (i := 1)) (SE.sb (se_int rfl))) (sa_cons (se_tup (sa_cons (se_str rfl) (sa_cons (se_ix (sb_var rfl (i := 1)) (SE.sb (se_int rfl))) (sa_cons (se_bl rfl) (sa_nil rfl))))) (sa_nil rfl))))) (sss_one (ss_setN (i := 2) (sn_lst (sa_star (sb_var rfl (i := 2)) (sa_star (SE.sb (SN.se (sn_lc (own := [("at", 3)]) (t := (.one 3)) (SI.sic (si_range1 (sa_cons (se_len (sab_cons (SE.sb (se_ix (sb_var rfl (i := 1)) (SE.sb (se_int rfl)))) (sab_nil rfl)) h_len) (sa_nil rfl)) h_range)) sc.nd (blkOk_by (by kernel_rfl)) (by decide) (fun s H C cl fp => (sg_one (i := 3) sc.nd)) (fun s H C cl fp => sts_nil) (fun s H C cl fp => (se_tup (sa_cons (se_str rfl) (sa_cons (se_var rfl (i := 3)) (sa_cons (se_bl rfl) (sa_nil rfl))))))))) (sa_nil rfl)))) sc.nd)))))))))
    (sss_one (ss_frz [2] (ss_ret (se_var rfl (i := 2))))))))⟩
theorem sc_standing : FnScope ["found", "where", "at"] ["found", "where", "at"] (defScope (top 34)) := ⟨rfl, rfl, rfl, by decide +kernel, rfl, by decide +kernel, by decide +kernel⟩
theorem F_standing (T : Fc c w mg) : ∃ ad, mg "standing" = some (.ref ad) ∧ Fn c P w mg base 1 ad 3 m_standing := by
  have hC := T.C
  obtain ⟨ad, fd, hmg, F⟩ := T.f_standing
  exact ⟨_, hmg, fn_mk (k := 0) F sc_standing (F.bindsN fun _ _ _ _ _ _ us hl => match us, hl with | [_, _, _], _ => rfl) (fun cdv A outer s H E hr => by
    have sc := sc_standing
    have hu := hr.units
    have hu1 := hu_of hr
    exact (sss_one (ss_ret (se_if (st_in hu (SE.sb (se_tup (sa_cons (se_var rfl (i := 1)) (sa_cons (se_var rfl (i := 2)) (sa_cons (se_bl rfl) (sa_nil rfl)))))) (sb_var rfl (i := 0))) (se_index (sb_var rfl (i := 0)) (se_tup (sa_cons (se_var rfl (i := 1)) (sa_cons (se_var rfl (i := 2)) (sa_cons (se_bl rfl) (sa_nil rfl))))) hu) (se_non rfl)))))⟩
theorem sc_pointing : FnScope ["kind", "here", "there", "many", "number", "low"] ["kind", "here", "there", "many"] (defScope (top 35)) := ⟨rfl, rfl, rfl, by decide +kernel, rfl, by decide +kernel, by decide +kernel⟩
theorem F_pointing (T : Fc c w mg) : ∃ ad, mg "pointing" = some (.ref ad) ∧ Fn c P w mg base 2 ad 4 m_pointing := by
  obtain ⟨_, h_MOST_NUMBER⟩ := T.g_MOST_NUMBER
  have hC := T.C
  obtain ⟨_, hg_is_number, G_is_number⟩ := F_is_number (P := P) (base := base) T
  obtain ⟨ad, fd, hmg, F⟩ := T.f_pointing
  exact ⟨_, hmg, fn_mk (k := 1) F sc_pointing (F.bindsN fun _ _ _ _ _ _ us hl => match us, hl with | [_, _, _, _], _ => rfl) (fun cdv A outer s H E hr => by
    have sc := sc_pointing
    have hu := hr.units
    have hu1 := hu_of hr
    exact (sss_cons (ss_set (i := 4) (se_var rfl (i := 2)) sc.nd)
    (sss_cons (ss_if (st_eq hu (sb_var rfl (i := 0)) (SE.sb (se_str rfl))) (sss_one (ss_set (i := 4) (se_sub (sb_var rfl (i := 1)) (sb_var rfl (i := 2))) sc.nd)) (sss_one (ss_if (st_eq hu (sb_var rfl (i := 0)) (SE.sb (se_str rfl))) (sss_one (ss_set (i := 4) (se_sub (sb_var rfl (i := 2)) (sb_var rfl (i := 1))) sc.nd)) (sss_one (ss_if (st_eq hu (sb_var rfl (i := 0)) (SE.sb (se_str rfl))) (sss_one (ss_set (i := 4) (se_sub (SE.sb (se_sub (sb_var rfl (i := 3)) (SE.sb (se_int rfl)))) (sb_var rfl (i := 2))) sc.nd)) (sss_nil rfl))))))
    (sss_cons (ss_set (i := 5) (se_if (st_in hu (sb_var rfl (i := 0)) (SE.sb (se_tup (sa_cons (se_str rfl) (sa_cons (se_str rfl) (sa_nil rfl)))))) (se_int rfl) (se_int rfl)) sc.nd)
    (sss_one (ss_ret (se_if (st_val (se_call G_is_number (hr.mono (by decide)) hg_is_number tk_def (sa_cons (se_var rfl (i := 4)) (sa_cons (se_var rfl (i := 5)) (sa_cons (se_glob rfl (by rfl) h_MOST_NUMBER.1 h_MOST_NUMBER.2 (fun _ => .int _)) (sa_nil rfl)))))) (se_tup (sa_cons (se_var rfl (i := 0)) (sa_cons (se_var rfl (i := 4)) (sa_nil rfl)))) (se_non rfl))))))))⟩
theorem sc_kept : FnScope ["words", "edit", "pointer", "here", "there", "many", "word", "found"] ["words", "edit", "pointer", "here", "there", "many"] (defScope (top 36)) := ⟨rfl, rfl, rfl, by decide +kernel, rfl, by decide +kernel, by decide +kernel⟩
theorem F_kept (T : Fc c w mg) : ∃ ad, mg "kept" = some (.ref ad) ∧ Fn c P w mg base 3 ad 6 m_kept := by
  obtain ⟨_, h_KINDS⟩ := T.g_KINDS
  have hC := T.C
  obtain ⟨_, hg_pointing, G_pointing⟩ := F_pointing (P := P) (base := base) T
  obtain ⟨ad, fd, hmg, F⟩ := T.f_kept
  exact ⟨_, hmg, fn_mk (k := 2) F sc_kept (F.bindsN fun _ _ _ _ _ _ us hl => match us, hl with | [_, _, _, _, _, _], _ => rfl) (fun cdv A outer s H E hr => by
    have sc := sc_kept
    have hu := hr.units
    have hu1 := hu_of hr
    exact (sss_cons (ss_if (SW.st (sw_or (st_eq hu (SE.sb (se_ix (sb_var rfl (i := 2)) (SE.sb (se_int rfl)))) (SE.sb (se_str rfl))) (sw_or1 (st_isN (sb_var rfl (i := 4)))))) (sss_one (ss_ret (se_var rfl (i := 2)))) (sss_nil rfl))
    (sss_cons (ss_set (i := 6) (se_ix (sb_var rfl (i := 0)) (SE.sb (se_kidx h_KINDS.2 (by rfl) h_KINDS.1 (se_ix (sb_var rfl (i := 2)) (SE.sb (se_int rfl)))))) sc.nd)
    (sss_cons (ss_if (SW.st (sw_or (st_eq hu (sb_var rfl (i := 6)) (SE.sb (se_str rfl))) (sw_or1 (SW.st (sw_and (st_eq hu (sb_var rfl (i := 6)) (SE.sb (se_str rfl))) (sw_and1 (st_eq hu (SE.sb (se_ix (sb_var rfl (i := 1)) (SE.sb (se_int rfl)))) (SE.sb (se_str rfl))))))))) (sss_one (ss_ret (se_var rfl (i := 2)))) (sss_nil rfl))
    (sss_cons (ss_set (i := 7) (se_call G_pointing (hr.mono (by decide)) hg_pointing tk_def (sa_cons (se_ix (sb_var rfl (i := 2)) (SE.sb (se_int rfl))) (sa_cons (se_var rfl (i := 3)) (sa_cons (se_var rfl (i := 4)) (sa_cons (se_var rfl (i := 5)) (sa_nil rfl)))))) sc.nd)
    (sss_one (ss_ret (se_if (st_isN (sb_var rfl (i := 7))) (se_var rfl (i := 2)) (se_var rfl (i := 7))))))))))⟩
theorem sc_label_of : FnScope ["rows", "edit", "one"] ["rows", "edit", "one"] (defScope (top 38)) := ⟨rfl, rfl, rfl, by decide +kernel, rfl, by decide +kernel, by decide +kernel⟩
theorem F_label_of (T : Fc c w mg) : ∃ ad, mg "label_of" = some (.ref ad) ∧ Fn c P w mg base 1 ad 3 m_label_of := by
  have hC := T.C
  obtain ⟨ad, fd, hmg, F⟩ := T.f_label_of
  exact ⟨_, hmg, fn_mk (k := 0) F sc_label_of (F.bindsN fun _ _ _ _ _ _ us hl => match us, hl with | [_, _, _], _ => rfl) (fun cdv A outer s H E hr => by
    have sc := sc_label_of
    have hu := hr.units
    have hu1 := hu_of hr
    exact (sss_one (ss_ret (se_if (st_eq hu (SE.sb (se_ix (sb_var rfl (i := 2)) (SE.sb (se_int rfl)))) (SE.sb (se_str rfl))) (se_ix (SE.sb (se_ix (sb_var rfl (i := 0)) (SE.sb (se_ix (sb_var rfl (i := 2)) (SE.sb (se_int rfl)))))) (SE.sb (se_int rfl))) (se_ix (SE.sb (se_ix (SE.sb (se_ix (sb_var rfl (i := 1)) (SE.sb (se_int rfl)))) (SE.sb (se_ix (sb_var rfl (i := 2)) (SE.sb (se_int rfl)))))) (SE.sb (se_int rfl)))))))⟩
theorem sc_edited : FnScope ["words", "rows", "edit", "rows_then", "lost", "found", "later", "due", "here", "one", "pointers", "place", "meant", "there", "now", "lines", "pointer"] ["words", "rows", "edit"] (defScope (top 37)) := ⟨rfl, rfl, rfl, by decide +kernel, rfl, by decide +kernel, by decide +kernel⟩
theorem F_edited (T : Fc c w mg) : ∃ ad, mg "edited" = some (.ref ad) ∧ Fn c P w mg base 4 ad 3 m_edited := by
  have h_enumerate := T.g_enumerate
  have h_len := T.g_len
  have h_tuple := T.g_tuple
  have hC := T.C
  obtain ⟨_, hg_sources, G_sources⟩ := F_sources (P := P) (base := base) T
  obtain ⟨_, hg_meaning, G_meaning⟩ := F_meaning (P := P) (base := base) T
  obtain ⟨_, hg_standing, G_standing⟩ := F_standing (P := P) (base := base) T
  obtain ⟨_, hg_kept, G_kept⟩ := F_kept (P := P) (base := base) T
  obtain ⟨_, hg_label_of, G_label_of⟩ := F_label_of (P := P) (base := base) T
  obtain ⟨ad, fd, hmg, F⟩ := T.f_edited
  exact ⟨_, hmg, fn_mk (k := 3) F sc_edited (F.bindsN fun _ _ _ _ _ _ us hl => match us, hl with | [_, _, _], _ => rfl) (fun cdv A outer s H E hr => by
    have sc := sc_edited
    have hu := hr.units
    have hu1 := hu_of hr
    exact (sss_cons (ss_parS3 (i := 5) (j := 6) (l := 7) (sam_val (se_call G_sources (hr.mono (by decide)) hg_sources tk_def (sa_cons (se_var rfl (i := 1)) (sa_cons (se_var rfl (i := 2)) (sa_nil rfl)))) (sam_own (sn_lst (sa_nil rfl)) (sam_own (sn_lst (sa_nil rfl)) (sam_nil rfl)))) sc.nd)
    (sss_cons (ss_for (t := (.tup [8, 9])) (si_enum (se_var rfl (i := 5)) h_enumerate) (sg_tup (sgs_cons (i := 8) (sgs_cons (i := 9) sgs_nil sc.nd) sc.nd)) (sss_cons (ss_setN (i := 10) (sn_lst (sa_nil rfl)) sc.nd)
    (sss_cons (ss_if (st_notN (sb_var rfl (i := 9))) (sss_cons (ss_set (i := 15) (se_if (st_eq hu (SE.sb (se_ix (sb_var rfl (i := 9)) (SE.sb (se_int rfl)))) (SE.sb (se_str rfl))) (se_var rfl (i := 1)) (se_ix (sb_var rfl (i := 2)) (SE.sb (se_int rfl)))) sc.nd)
    (sss_one (ss_for (t := (.one 16)) (si_seq (se_ix (SE.sb (se_ix (sb_var rfl (i := 15)) (SE.sb (se_ix (sb_var rfl (i := 9)) (SE.sb (se_int rfl)))))) (SE.sb (se_int rfl)))) (sg_one (i := 16) sc.nd) (sss_cons (ss_set (i := 12) (se_call G_meaning (hr.mono (by decide)) hg_meaning tk_def (sa_cons (se_var rfl (i := 15)) (sa_cons (se_ix (sb_var rfl (i := 9)) (SE.sb (se_int rfl))) (sa_cons (se_var rfl (i := 16)) (sa_nil rfl))))) sc.nd)
    (sss_cons (ss_set (i := 13) (se_if (st_isN (sb_var rfl (i := 12))) (se_non rfl) (se_call G_standing (hr.mono (by decide)) hg_standing tk_def (sa_cons (se_var rfl (i := 5)) (sa_cons (se_ix (sb_var rfl (i := 9)) (SE.sb (se_int rfl))) (sa_cons (se_var rfl (i := 12)) (sa_nil rfl)))))) sc.nd)
    (sss_cons (ss_append (i := 7) (se_tup (sa_cons (se_var rfl (i := 8)) (sa_cons (se_len (sab_cons (sb_var rfl (i := 10)) (sab_nil rfl)) h_len) (sa_cons (se_var rfl (i := 12)) (sa_cons (se_var rfl (i := 13)) (sa_nil rfl)))))))
    (sss_one (ss_append (i := 10) (se_call G_kept (hr.mono (by decide)) hg_kept tk_def (sa_cons (se_var rfl (i := 0)) (sa_cons (se_var rfl (i := 2)) (sa_cons (se_var rfl (i := 16)) (sa_cons (se_var rfl (i := 8)) (sa_cons (se_var rfl (i := 13)) (sa_cons (se_len (sab_cons (sb_var rfl (i := 5)) (sab_nil rfl)) h_len) (sa_nil rfl))))))))))))) pa_def))) (sss_nil rfl))
    (sss_one (ss_append (i := 6) (se_tup (sa_cons (se_if (st_isN (sb_var rfl (i := 9))) (se_non rfl) (se_call G_label_of (hr.mono (by decide)) hg_label_of tk_def (sa_cons (se_var rfl (i := 1)) (sa_cons (se_var rfl (i := 2)) (sa_cons (se_var rfl (i := 9)) (sa_nil rfl)))))) (sa_cons (se_tuple (sab_cons (sb_var rfl (i := 10)) (sab_nil rfl)) h_tuple) (sa_nil rfl)))))))) pa_def)
    (sss_cons (ss_set (i := 3) (se_tuple (sab_cons (sb_var rfl (i := 6)) (sab_nil rfl)) h_tuple) sc.nd)
    (sss_cons (ss_setN (i := 4) (sn_lst (sa_nil rfl)) sc.nd)
    (sss_cons (ss_frz [7] (ss_for (t := (.tup [8, 11, 12, 13])) (si_seq (se_var rfl (i := 7))) (sg_tup (sgs_cons (i := 8) (sgs_cons (i := 11) (sgs_cons (i := 12) (sgs_cons (i := 13) sgs_nil sc.nd) sc.nd) sc.nd) sc.nd)) (sss_cons (ss_set (i := 14) (se_call G_meaning (hr.mono (by decide)) hg_meaning tk_def (sa_cons (se_var rfl (i := 3)) (sa_cons (se_var rfl (i := 8)) (sa_cons (se_ix (SE.sb (se_ix (SE.sb (se_ix (sb_var rfl (i := 3)) (sb_var rfl (i := 8)))) (SE.sb (se_int rfl)))) (sb_var rfl (i := 11))) (sa_nil rfl))))) sc.nd)
    (sss_one (ss_if (SW.st (sw_and (st_notN (sb_var rfl (i := 12))) (sw_and1 (SW.st (sw_or (st_isN (sb_var rfl (i := 13))) (sw_or1 (st_ne hu (sb_var rfl (i := 14)) (sb_var rfl (i := 13))))))))) (sss_one (ss_append (i := 4) (se_tup (sa_cons (se_var rfl (i := 8)) (sa_cons (se_var rfl (i := 11)) (sa_nil rfl)))))) (sss_nil rfl)))) pa_def))
    (sss_one (ss_frz [4] (ss_ret (se_tup (sa_cons (se_var rfl (i := 3)) (sa_cons (se_var rfl (i := 4)) (sa_nil rfl)))))))))))))⟩
theorem sc_Way_call : FnScope ["self", "steps", "edit"] ["self", "steps", "edit"] (defScope (inClass (top 41) 8)) := ⟨rfl, rfl, rfl, by decide +kernel, rfl, by decide +kernel, by decide +kernel⟩
theorem F_Way_call (T : Fc c w mg) : ∃ ad, Meth c.K (c.cls 1) "__call__" ad ∧ Fn c P w mg base 6 ad 3 m_Way_call := by
  have h_Steps := T.g_Steps
  obtain ⟨_, hs_Way_line⟩ := T.s_Way_line
  have hC := T.C
  obtain ⟨_, hg_check_steps, G_check_steps⟩ := F_check_steps (P := P) (base := base) T
  obtain ⟨_, hg_is_edit, G_is_edit⟩ := F_is_edit (P := P) (base := base) T
  obtain ⟨_, _, hp_Steps_rows, G_Steps_rows⟩ := F_Steps_rows (P := P) (base := base) T
  obtain ⟨_, _, mk_Steps, G_Steps_init⟩ := F_Steps_init (P := P) (base := base) T
  obtain ⟨_, hg_edited, G_edited⟩ := F_edited (P := P) (base := base) T
  obtain ⟨ad, fd, hmg, F⟩ := T.f_Way_call
  exact ⟨_, hmg, fn_mk (k := 5) F sc_Way_call (F.bindsN fun _ _ _ _ _ _ us hl => match us, hl with | [_, _, _], _ => rfl) (fun cdv A outer s H E hr => by
    have sc := sc_Way_call
    have hu := hr.units
    have hu1 := hu_of hr
    exact (sss_cons (ss_expr (se_call G_check_steps (hr.mono (by decide)) hg_check_steps tk_def (sa_cons (se_var rfl (i := 1)) (sa_nil rfl))))
    (sss_cons (ss_if (st_not (st_val (se_call G_is_edit (hr.mono (by decide)) hg_is_edit tk_def (sa_cons (se_prop (k := 0) (se_var rfl (i := 1)) (hC.sc 0 (by decide)) hp_Steps_rows G_Steps_rows (hr.mono (by decide))) (sa_cons (se_var rfl (i := 2)) (sa_nil rfl)))))) (sss_one (ss_never rfl)) (sss_nil rfl))
    (sss_one (ss_ret (se_make (kc := 0) (ad := 0) mk_Steps G_Steps_init.1 G_Steps_init.2 (hr.mono (by decide)) h_Steps tk_def (sa_cons (se_ix (SE.sb (se_call G_edited (hr.mono (by decide)) hg_edited tk_def (sa_cons (se_attr (k := 1) (i := 0) (se_var rfl (i := 0)) (hC.sc 1 (by decide)) hs_Way_line) (sa_cons (se_prop (k := 0) (se_var rfl (i := 1)) (hC.sc 0 (by decide)) hp_Steps_rows G_Steps_rows (hr.mono (by decide))) (sa_cons (se_var rfl (i := 2)) (sa_nil rfl)))))) (SE.sb (se_int rfl))) (sa_nil rfl))))))))⟩
theorem sc_Steps_getitem : FnScope ["self", "index"] ["self", "index"] (defScope (inClass (top 27) 6)) := ⟨rfl, rfl, rfl, by decide +kernel, rfl, by decide +kernel, by decide +kernel⟩
theorem F_Steps_getitem (T : Fc c w mg) : ∃ ad, Meth c.K (c.cls 0) "__getitem__" ad ∧ Fn c P w mg base 2 ad 2 m_Steps_getitem := by
  obtain ⟨_, hs_Steps_line⟩ := T.s_Steps_line
  have h_len := T.g_len
  have hC := T.C
  obtain ⟨_, hg_is_number, G_is_number⟩ := F_is_number (P := P) (base := base) T
  obtain ⟨ad, fd, hmg, F⟩ := T.f_Steps_getitem
  exact ⟨_, hmg, fn_mk (k := 1) F sc_Steps_getitem (F.bindsN fun _ _ _ _ _ _ us hl => match us, hl with | [_, _], _ => rfl) (fun cdv A outer s H E hr => by
    have sc := sc_Steps_getitem
    have hu := hr.units
    have hu1 := hu_of hr
    exact (sss_cons (ss_if (st_not (st_val (se_call G_is_number (hr.mono (by decide)) hg_is_number tk_def (sa_cons (se_var rfl (i := 1)) (sa_cons (se_int rfl) (sa_cons (se_sub (SE.sb (se_len (sab_cons (SE.sb (se_attr (k := 0) (i := 0) (se_var rfl (i := 0)) (hC.sc 0 (by decide)) hs_Steps_line)) (sab_nil rfl)) h_len)) (SE.sb (se_int rfl))) (sa_nil rfl))))))) (sss_one (ss_never rfl)) (sss_nil rfl))
    (sss_one (ss_ret (se_ix (SE.sb (se_attr (k := 0) (i := 0) (se_var rfl (i := 0)) (hC.sc 0 (by decide)) hs_Steps_line)) (sb_var rfl (i := 1)))))))⟩
theorem sc_check_way : FnScope ["thing"] ["thing"] (defScope (top 43)) := ⟨rfl, rfl, rfl, by decide +kernel, rfl, by decide +kernel, by decide +kernel⟩
theorem F_check_way (T : Fc c w mg) : ∃ ad, mg "check_way" = some (.ref ad) ∧ Fn c P w mg base 1 ad 1 m_check_way := by
  have h_Way := T.g_Way
  have h_isinstance := T.g_isinstance
  have hC := T.C
  obtain ⟨ad, fd, hmg, F⟩ := T.f_check_way
  exact ⟨_, hmg, fn_mk (k := 0) F sc_check_way (F.bindsN fun _ _ _ _ _ _ us hl => match us, hl with | [_], _ => rfl) (fun cdv A outer s H E hr => by
    have sc := sc_check_way
    have hu := hr.units
    have hu1 := hu_of hr
    exact (sss_one (ss_if (st_not (st_val (se_iso hC (sab_cons (sb_var rfl (i := 0)) (sab_cons (SE.sb (se_glob (v := .ref (c.cls 1)) rfl (by rfl) h_Way rfl (fun _ => .cls _))) (sab_nil rfl))) h_isinstance))) (sss_one (ss_never rfl)) (sss_nil rfl))))⟩
theorem sc_check_edit : FnScope ["steps", "edit"] ["steps", "edit"] (defScope (top 81)) := ⟨rfl, rfl, rfl, by decide +kernel, rfl, by decide +kernel, by decide +kernel⟩
theorem F_check_edit (T : Fc c w mg) : ∃ ad, mg "check_edit" = some (.ref ad) ∧ Fn c P w mg base 6 ad 2 m_check_edit := by
  have hC := T.C
  obtain ⟨_, hg_check_steps, G_check_steps⟩ := F_check_steps (P := P) (base := base) T
  obtain ⟨_, hg_is_edit, G_is_edit⟩ := F_is_edit (P := P) (base := base) T
  obtain ⟨_, _, hp_Steps_rows, G_Steps_rows⟩ := F_Steps_rows (P := P) (base := base) T
  obtain ⟨ad, fd, hmg, F⟩ := T.f_check_edit
  exact ⟨_, hmg, fn_mk (k := 5) F sc_check_edit (F.bindsN fun _ _ _ _ _ _ us hl => match us, hl with | [_, _], _ => rfl) (fun cdv A outer s H E hr => by
    have sc := sc_check_edit
    have hu := hr.units
    have hu1 := hu_of hr
    exact (sss_cons (ss_expr (se_call G_check_steps (hr.mono (by decide)) hg_check_steps tk_def (sa_cons (se_var rfl (i := 0)) (sa_nil rfl))))
    (sss_one (ss_if (st_not (st_val (se_call G_is_edit (hr.mono (by decide)) hg_is_edit tk_def (sa_cons (se_prop (k := 0) (se_var rfl (i := 0)) (hC.sc 0 (by decide)) hp_Steps_rows G_Steps_rows (hr.mono (by decide))) (sa_cons (se_var rfl (i := 1)) (sa_nil rfl)))))) (sss_one (ss_never rfl)) (sss_nil rfl)))))⟩
theorem sc_Way_words : FnScope ["self"] ["self"] (defScope (inClass (top 41) 7)) := ⟨rfl, rfl, rfl, by decide +kernel, rfl, by decide +kernel, by decide +kernel⟩
theorem F_Way_words (T : Fc c w mg) : ∃ p ad, Prp c.K (c.cls 1) "words" p ad ∧ Fn c P w mg base 1 ad 1 m_Way_words := by
  obtain ⟨_, hs_Way_line⟩ := T.s_Way_line
  have hC := T.C
  obtain ⟨p, ad, fd, hP, F⟩ := T.f_Way_words
  exact ⟨p, ad, hP, fn_mk (k := 0) F sc_Way_words (F.bindsN fun _ _ _ _ _ _ us hl => match us, hl with | [_], _ => rfl) (fun cdv A outer s H E hr => by
    have sc := sc_Way_words
    have hu := hr.units
    have hu1 := hu_of hr
    exact (sss_one (ss_ret (se_attr (k := 1) (i := 0) (se_var rfl (i := 0)) (hC.sc 1 (by decide)) hs_Way_line))))⟩
theorem sc_astray : FnScope ["way", "steps", "edit"] ["way", "steps", "edit"] (defScope (top 83)) := ⟨rfl, rfl, rfl, by decide +kernel, rfl, by decide +kernel, by decide +kernel⟩
theorem F_astray (T : Fc c w mg) : ∃ ad, mg "astray" = some (.ref ad) ∧ Fn c P w mg base 7 ad 3 m_astray := by
  have hC := T.C
  obtain ⟨_, hg_check_way, G_check_way⟩ := F_check_way (P := P) (base := base) T
  obtain ⟨_, hg_check_edit, G_check_edit⟩ := F_check_edit (P := P) (base := base) T
  obtain ⟨_, hg_edited, G_edited⟩ := F_edited (P := P) (base := base) T
  obtain ⟨_, _, hp_Way_words, G_Way_words⟩ := F_Way_words (P := P) (base := base) T
  obtain ⟨_, _, hp_Steps_rows, G_Steps_rows⟩ := F_Steps_rows (P := P) (base := base) T
  obtain ⟨ad, fd, hmg, F⟩ := T.f_astray
  exact ⟨_, hmg, fn_mk (k := 6) F sc_astray (F.bindsN fun _ _ _ _ _ _ us hl => match us, hl with | [_, _, _], _ => rfl) (fun cdv A outer s H E hr => by
    have sc := sc_astray
    have hu := hr.units
    have hu1 := hu_of hr
    exact (sss_cons (ss_expr (se_call G_check_way (hr.mono (by decide)) hg_check_way tk_def (sa_cons (se_var rfl (i := 0)) (sa_nil rfl))))
    (sss_cons (ss_expr (se_call G_check_edit (hr.mono (by decide)) hg_check_edit tk_def (sa_cons (se_var rfl (i := 1)) (sa_cons (se_var rfl (i := 2)) (sa_nil rfl)))))
    (sss_one (ss_ret (se_ix (SE.sb (se_call G_edited (hr.mono (by decide)) hg_edited tk_def (sa_cons (se_prop (k := 1) (se_var rfl (i := 0)) (hC.sc 1 (by decide)) hp_Way_words G_Way_words (hr.mono (by decide))) (sa_cons (se_prop (k := 0) (se_var rfl (i := 1)) (hC.sc 0 (by decide)) hp_Steps_rows G_Steps_rows (hr.mono (by decide))) (sa_cons (se_var rfl (i := 2)) (sa_nil rfl)))))) (SE.sb (se_int rfl))))))))⟩
theorem sc_origins : FnScope ["steps", "edit", "one"] ["steps", "edit"] (defScope (top 82)) := ⟨rfl, rfl, rfl, by decide +kernel, rfl, by decide +kernel, by decide +kernel⟩
theorem F_origins (T : Fc c w mg) : ∃ ad, mg "origins" = some (.ref ad) ∧ Fn c P w mg base 7 ad 2 m_origins := by
  have hC := T.C
  obtain ⟨_, hg_check_edit, G_check_edit⟩ := F_check_edit (P := P) (base := base) T
  obtain ⟨_, hg_sources, G_sources⟩ := F_sources (P := P) (base := base) T
  obtain ⟨_, _, hp_Steps_rows, G_Steps_rows⟩ := F_Steps_rows (P := P) (base := base) T
  obtain ⟨ad, fd, hmg, F⟩ := T.f_origins
  exact ⟨_, hmg, fn_mk (k := 6) F sc_origins (F.bindsN fun _ _ _ _ _ _ us hl => match us, hl with | [_, _], _ => rfl) (fun cdv A outer s H E hr => by
    have sc := sc_origins
    have hu := hr.units
    have hu1 := hu_of hr
    exact (sss_cons (ss_expr (se_call G_check_edit (hr.mono (by decide)) hg_check_edit tk_def (sa_cons (se_var rfl (i := 0)) (sa_cons (se_var rfl (i := 1)) (sa_nil rfl)))))
    (sss_one (ss_ret (SN.se (sn_lc (own := [("one", 2)]) (t := (.one 2)) (SI.sic (si_seq (se_call G_sources (hr.mono (by decide)) hg_sources tk_def (sa_cons (se_prop (k := 0) (se_var rfl (i := 0)) (hC.sc 0 (by decide)) hp_Steps_rows G_Steps_rows (hr.mono (by decide))) (sa_cons (se_var rfl (i := 1)) (sa_nil rfl)))))) sc.nd (blkOk_by (by kernel_rfl)) (by decide) (fun s H C cl fp => (sg_one (i := 2) sc.nd)) (fun s H C cl fp => sts_nil) (fun s H C cl fp => (se_if (st_isN (sb_var rfl (i := 2))) (se_non rfl) (se_sliceT (sb_var rfl (i := 2)) (so_none rfl) (so_some (SE.sb (se_int rfl))))))))))))⟩
theorem sc__law_edits_right : FnScope ["_law_put", "_law_moved", "_law_twice", "_law_more", "_law_joined", "_law_own", "_law_steps", "_law_raw", "_law_shift", "_law_follow", "_law_way", "_law_spot"] [] (defScope (top 86)) := ⟨rfl, rfl, rfl, by decide +kernel, rfl, by decide +kernel, by decide +kernel⟩
theorem F__law_edits_right (T : Fc c w mg) : ∃ ad, mg "_law_edits_right" = some (.ref ad) ∧ Fn c P w mg base 8 ad 0 m__law_edits_right := by
  have h_Way := T.g_Way
  have hco_Steps := T.co_Steps
  have hco_Way := T.co_Way
  have hgi_Steps := T.gi_Steps
  have h_Steps := T.g_Steps
  have hC := T.C
  obtain ⟨_, hg__law_list, G__law_list⟩ := F__law_list (P := P) (base := base) T
  obtain ⟨_, _, mk_Way, G_Way_init⟩ := F_Way_init (P := P) (base := base) T
  obtain ⟨_, _, hst_Way_every, G_Way_every⟩ := F_Way_every (P := P) (base := base) T
  obtain ⟨_, hm_Steps_spots, G_Steps_spots⟩ := F_Steps_spots (P := P) (base := base) T
  obtain ⟨_, hm_Steps_call, G_Steps_call⟩ := F_Steps_call (P := P) (base := base) T
  obtain ⟨_, hm_Steps_is_whole, G_Steps_is_whole⟩ := F_Steps_is_whole (P := P) (base := base) T
  obtain ⟨_, hm_Way_call, G_Way_call⟩ := F_Way_call (P := P) (base := base) T
  obtain ⟨_, _, hp_Steps_rows, G_Steps_rows⟩ := F_Steps_rows (P := P) (base := base) T
  obtain ⟨_, hm_Steps_getitem, G_Steps_getitem⟩ := F_Steps_getitem (P := P) (base := base) T
  obtain ⟨_, hg_astray, G_astray⟩ := F_astray (P := P) (base := base) T
  obtain ⟨_, hg_origins, G_origins⟩ := F_origins (P := P) (base := base) T
  obtain ⟨_, _, hcm_Steps_of, G_Steps_of⟩ := F_Steps_of (P := P) (base := base) T
  obtain ⟨ad, fd, hmg, F⟩ := T.f__law_edits_right
  exact ⟨_, hmg, fn_mk (k := 7) F sc__law_edits_right (F.bindsN fun _ _ _ _ _ _ us hl => match us, hl with | [], _ => rfl) (fun cdv A outer s H E hr => by
    have sc := sc__law_edits_right
    have hu := hr.units
    have hu1 := hu_of hr
    exact (sss_cons (ss_parC (is := [6, 7, 8, 9]) (sam_val (se_call0 G__law_list rfl (hr.mono (by decide)) hg__law_list tk_def) (sam_val (se_makeK (kc := 1) mk_Way G_Way_init.1 (kb_Way_init_0 G_Way_init.2) kv_Way_init_0 (hr.mono (by decide)) h_Way tk_def (sk_nil rfl)) (sam_val (se_static hst_Way_every G_Way_every (hr.mono (by decide)) h_Way tk_def (sa_cons (se_str rfl) (sa_nil rfl))) (sam_val (se_static hst_Way_every G_Way_every (hr.mono (by decide)) h_Way tk_def (sa_cons (se_str rfl) (sa_nil rfl))) (sam_nil rfl))))) (sg_tup (sgs_cons (i := 6) (sgs_cons (i := 7) (sgs_cons (i := 8) (sgs_cons (i := 9) sgs_nil sc.nd) sc.nd) sc.nd) sc.nd)))
    (sss_cons (ss_if (SW.st (sw_or (st_ne hu (SE.sb (SN.se (sn_lc (own := [("_law_spot", 11)]) (t := (.one 11)) (SI.sic (si_seq (se_meth0 (k := 0) (se_var rfl (i := 6)) (hC.sc 0 (by decide)) hm_Steps_spots G_Steps_spots (hr.mono (by decide)) tk_def))) sc.nd (blkOk_by (by kernel_rfl)) (by decide) (fun s H C cl fp => (sg_one (i := 11) sc.nd)) (fun s H C cl fp => sts_nil) (fun s H C cl fp => (se_callO (k := 0) (se_var rfl (i := 6)) (sa_cons (se_var rfl (i := 11)) (sa_nil rfl)) hco_Steps hm_Steps_call G_Steps_call (hr.mono (by decide)) tk_in))))) (SE.sb (SN.se (sn_lst (sa_cons (se_int rfl) (sa_cons (se_int rfl) (sa_cons (se_int rfl) (sa_cons (se_int rfl) (sa_cons (se_non rfl) (sa_nil rfl)))))))))) (sw_or1 (st_val (se_meth0 (k := 0) (se_var rfl (i := 6)) (hC.sc 0 (by decide)) hm_Steps_is_whole G_Steps_is_whole (hr.mono (by decide)) tk_def))))) (sss_one (ss_ret (se_bl rfl))) (sss_nil rfl))
    (sss_cons (ss_setLc (i := 0) (own := [("_law_way", 10)]) (t := (.one 10)) (SI.sic (si_seq (se_tup (sa_cons (se_var rfl (i := 7)) (sa_cons (se_var rfl (i := 8)) (sa_cons (se_var rfl (i := 9)) (sa_nil rfl))))))) sc.nd (blkOk_by (by kernel_rfl)) (by decide) (fun s H C cl fp => (sg_one (i := 10) sc.nd)) (fun s H C cl fp => sts_nil) (fun s H C cl fp => (se_prop (k := 0) (se_callO (k := 1) (se_var rfl (i := 10)) (sa_cons (se_var rfl (i := 6)) (sa_cons (se_tup (sa_cons (se_str rfl) (sa_cons (se_int rfl) (sa_nil rfl)))) (sa_nil rfl))) hco_Way hm_Way_call G_Way_call (hr.mono (by decide)) tk_in) (hC.sc 0 (by decide)) hp_Steps_rows G_Steps_rows (hr.mono (by decide)))))
    (sss_cons (ss_if (SW.st (sw_or (st_ne hu (SE.sb (se_ix (sb_var rfl (i := 0)) (SE.sb (se_int rfl)))) (SE.sb (se_add (SE.sb (se_tup (sa_cons (se_ixO (k := 0) (se_var rfl (i := 6)) (se_int rfl) hm_Steps_getitem (fi_of hm_Steps_getitem hgi_Steps) G_Steps_getitem (hr.mono (by decide)) tk_def) (sa_cons (se_tup (sa_cons (se_non rfl) (sa_cons (se_tup (sa_nil rfl)) (sa_nil rfl)))) (sa_nil rfl))))) (SE.sb (se_sliceT (SE.sb (se_prop (k := 0) (se_var rfl (i := 6)) (hC.sc 0 (by decide)) hp_Steps_rows G_Steps_rows (hr.mono (by decide)))) (so_some (SE.sb (se_int rfl))) (so_none rfl)))))) (sw_or (st_ne hu (SE.sb (se_ix (sb_var rfl (i := 0)) (SE.sb (se_int rfl)))) (SE.sb (se_ix (sb_var rfl (i := 0)) (SE.sb (se_int rfl))))) (sw_or1 (st_ne hu (SE.sb (se_ix (SE.sb (se_ix (sb_var rfl (i := 0)) (SE.sb (se_int rfl)))) (SE.sb (se_int rfl)))) (SE.sb (se_tup (sa_cons (se_non rfl) (sa_cons (se_tup (sa_cons (se_tup (sa_cons (se_str rfl) (sa_cons (se_int rfl) (sa_nil rfl)))) (sa_cons (se_tup (sa_cons (se_str rfl) (sa_cons (se_int rfl) (sa_nil rfl)))) (sa_nil rfl)))) (sa_nil rfl)))))))))) (sss_one (ss_ret (se_bl rfl))) (sss_nil rfl))
    (sss_cons (ss_if (SW.st (sw_or (st_ne hu (SE.sb (se_ix (SE.sb (se_ix (sb_var rfl (i := 0)) (SE.sb (se_int rfl)))) (SE.sb (se_int rfl)))) (SE.sb (se_tup (sa_cons (se_non rfl) (sa_cons (se_tup (sa_cons (se_tup (sa_cons (se_str rfl) (sa_cons (se_int rfl) (sa_nil rfl)))) (sa_cons (se_tup (sa_cons (se_str rfl) (sa_cons (se_str rfl) (sa_nil rfl)))) (sa_nil rfl)))) (sa_nil rfl)))))) (sw_or (st_ne hu (SE.sb (se_call G_astray (hr.mono (by decide)) hg_astray tk_def (sa_cons (se_var rfl (i := 7)) (sa_cons (se_var rfl (i := 6)) (sa_cons (se_tup (sa_cons (se_str rfl) (sa_cons (se_int rfl) (sa_nil rfl)))) (sa_nil rfl)))))) (SE.sb (SN.se (sn_lst (sa_cons (se_tup (sa_cons (se_int rfl) (sa_cons (se_int rfl) (sa_nil rfl)))) (sa_cons (se_tup (sa_cons (se_int rfl) (sa_cons (se_int rfl) (sa_nil rfl)))) (sa_nil rfl))))))) (sw_or1 (st_ne hu (SE.sb (se_call G_astray (hr.mono (by decide)) hg_astray tk_def (sa_cons (se_var rfl (i := 9)) (sa_cons (se_var rfl (i := 6)) (sa_cons (se_tup (sa_cons (se_str rfl) (sa_cons (se_int rfl) (sa_nil rfl)))) (sa_nil rfl)))))) (SE.sb (SN.se (sn_lst (sa_nil rfl))))))))) (sss_one (ss_ret (se_bl rfl))) (sss_nil rfl))
    (sss_cons (ss_setLc (i := 1) (own := [("_law_way", 10)]) (t := (.one 10)) (SI.sic (si_seq (se_tup (sa_cons (se_var rfl (i := 7)) (sa_cons (se_var rfl (i := 8)) (sa_cons (se_var rfl (i := 9)) (sa_nil rfl))))))) sc.nd (blkOk_by (by kernel_rfl)) (by decide) (fun s H C cl fp => (sg_one (i := 10) sc.nd)) (fun s H C cl fp => sts_nil) (fun s H C cl fp => (se_prop (k := 0) (se_callO (k := 1) (se_var rfl (i := 10)) (sa_cons (se_var rfl (i := 6)) (sa_cons (se_tup (sa_cons (se_str rfl) (sa_cons (se_int rfl) (sa_cons (se_int rfl) (sa_nil rfl))))) (sa_nil rfl))) hco_Way hm_Way_call G_Way_call (hr.mono (by decide)) tk_in) (hC.sc 0 (by decide)) hp_Steps_rows G_Steps_rows (hr.mono (by decide)))))
    (sss_cons (ss_if (SW.st (sw_or (st_ne hu (SE.sb (se_ix (sb_var rfl (i := 1)) (SE.sb (se_int rfl)))) (SE.sb (se_add (SE.sb (se_sliceT (SE.sb (se_prop (k := 0) (se_var rfl (i := 6)) (hC.sc 0 (by decide)) hp_Steps_rows G_Steps_rows (hr.mono (by decide)))) (so_some (SE.sb (se_int rfl))) (so_none rfl))) (SE.sb (se_sliceT (SE.sb (se_prop (k := 0) (se_var rfl (i := 6)) (hC.sc 0 (by decide)) hp_Steps_rows G_Steps_rows (hr.mono (by decide)))) (so_none rfl) (so_some (SE.sb (se_int rfl)))))))) (sw_or1 (st_ne hu (SE.sb (se_ix (sb_var rfl (i := 1)) (SE.sb (se_int rfl)))) (SE.sb (se_ix (sb_var rfl (i := 1)) (SE.sb (se_int rfl)))))))) (sss_one (ss_ret (se_bl rfl))) (sss_nil rfl))
    (sss_cons (ss_if (SW.st (sw_or (st_ne hu (SE.sb (se_ix (SE.sb (se_ix (sb_var rfl (i := 1)) (SE.sb (se_int rfl)))) (SE.sb (se_int rfl)))) (SE.sb (se_tup (sa_cons (se_non rfl) (sa_cons (se_tup (sa_cons (se_tup (sa_cons (se_str rfl) (sa_cons (se_int rfl) (sa_nil rfl)))) (sa_cons (se_tup (sa_cons (se_str rfl) (sa_cons (se_int rfl) (sa_nil rfl)))) (sa_nil rfl)))) (sa_nil rfl)))))) (sw_or1 (st_ne hu (SE.sb (se_ix (SE.sb (se_ix (sb_var rfl (i := 1)) (SE.sb (se_int rfl)))) (SE.sb (se_int rfl)))) (SE.sb (se_tup (sa_cons (se_non rfl) (sa_cons (se_tup (sa_cons (se_tup (sa_cons (se_str rfl) (sa_cons (se_int rfl) (sa_nil rfl)))) (sa_cons (se_tup (sa_cons (se_str rfl) (sa_cons (se_str rfl) (sa_nil rfl)))) (sa_nil rfl)))) (sa_nil rfl))))))))) (sss_one (ss_ret (se_bl rfl))) (sss_nil rfl))
    (sss_cons (ss_if (SW.st (sw_or (st_ne hu (SE.sb (se_call G_astray (hr.mono (by decide)) hg_astray tk_def (sa_cons (se_var rfl (i := 7)) (sa_cons (se_var rfl (i := 6)) (sa_cons (se_tup (sa_cons (se_str rfl) (sa_cons (se_int rfl) (sa_cons (se_int rfl) (sa_nil rfl))))) (sa_nil rfl)))))) (SE.sb (SN.se (sn_lst (sa_cons (se_tup (sa_cons (se_int rfl) (sa_cons (se_int rfl) (sa_nil rfl)))) (sa_cons (se_tup (sa_cons (se_int rfl) (sa_cons (se_int rfl) (sa_nil rfl)))) (sa_cons (se_tup (sa_cons (se_int rfl) (sa_cons (se_int rfl) (sa_nil rfl)))) (sa_nil rfl)))))))) (sw_or1 (st_ne hu (SE.sb (se_call G_astray (hr.mono (by decide)) hg_astray tk_def (sa_cons (se_var rfl (i := 9)) (sa_cons (se_var rfl (i := 6)) (sa_cons (se_tup (sa_cons (se_str rfl) (sa_cons (se_int rfl) (sa_cons (se_int rfl) (sa_nil rfl))))) (sa_nil rfl)))))) (SE.sb (SN.se (sn_lst (sa_cons (se_tup (sa_cons (se_int rfl) (sa_cons (se_int rfl) (sa_nil rfl)))) (sa_nil rfl))))))))) (sss_one (ss_ret (se_bl rfl))) (sss_nil rfl))
    (sss_cons (ss_if (SW.st (sw_or (st_ne hu (SE.sb (se_call G_astray (hr.mono (by decide)) hg_astray tk_def (sa_cons (se_var rfl (i := 9)) (sa_cons (se_var rfl (i := 6)) (sa_cons (se_tup (sa_cons (se_str rfl) (sa_cons (se_int rfl) (sa_nil rfl)))) (sa_nil rfl)))))) (SE.sb (SN.se (sn_lst (sa_cons (se_tup (sa_cons (se_int rfl) (sa_cons (se_int rfl) (sa_nil rfl)))) (sa_cons (se_tup (sa_cons (se_int rfl) (sa_cons (se_int rfl) (sa_nil rfl)))) (sa_nil rfl))))))) (sw_or1 (st_ne hu (SE.sb (se_ix (SE.sb (se_prop (k := 0) (se_callO (k := 1) (se_var rfl (i := 9)) (sa_cons (se_var rfl (i := 6)) (sa_cons (se_tup (sa_cons (se_str rfl) (sa_cons (se_int rfl) (sa_nil rfl)))) (sa_nil rfl))) hco_Way hm_Way_call G_Way_call (hr.mono (by decide)) tk_def) (hC.sc 0 (by decide)) hp_Steps_rows G_Steps_rows (hr.mono (by decide)))) (SE.sb (se_int rfl)))) (SE.sb (se_tup (sa_cons (se_non rfl) (sa_cons (se_tup (sa_cons (se_tup (sa_cons (se_str rfl) (sa_cons (se_int rfl) (sa_nil rfl)))) (sa_cons (se_tup (sa_cons (se_str rfl) (sa_cons (se_str rfl) (sa_nil rfl)))) (sa_nil rfl)))) (sa_nil rfl))))))))) (sss_one (ss_ret (se_bl rfl))) (sss_nil rfl))
    (sss_cons (ss_set (i := 2) (se_prop (k := 0) (se_callO (k := 1) (se_var rfl (i := 9)) (sa_cons (se_var rfl (i := 6)) (sa_cons (se_tup (sa_cons (se_str rfl) (sa_cons (se_int rfl) (sa_cons (se_int rfl) (sa_nil rfl))))) (sa_nil rfl))) hco_Way hm_Way_call G_Way_call (hr.mono (by decide)) tk_def) (hC.sc 0 (by decide)) hp_Steps_rows G_Steps_rows (hr.mono (by decide))) sc.nd)
    (sss_cons (ss_if (SW.st (sw_or (st_ne hu (SE.sb (se_ix (sb_var rfl (i := 2)) (SE.sb (se_int rfl)))) (SE.sb (se_tup (sa_cons (se_non rfl) (sa_cons (se_tup (sa_cons (se_tup (sa_cons (se_str rfl) (sa_cons (se_int rfl) (sa_nil rfl)))) (sa_cons (se_tup (sa_cons (se_str rfl) (sa_cons (se_str rfl) (sa_nil rfl)))) (sa_nil rfl)))) (sa_nil rfl)))))) (sw_or (st_ne hu (SE.sb (se_ix (sb_var rfl (i := 2)) (SE.sb (se_int rfl)))) (SE.sb (se_ix (sb_var rfl (i := 2)) (SE.sb (se_int rfl))))) (sw_or1 (st_ne hu (SE.sb (se_ix (sb_var rfl (i := 2)) (SE.sb (se_int rfl)))) (SE.sb (se_ixO (k := 0) (se_var rfl (i := 6)) (se_int rfl) hm_Steps_getitem (fi_of hm_Steps_getitem hgi_Steps) G_Steps_getitem (hr.mono (by decide)) tk_def))))))) (sss_one (ss_ret (se_bl rfl))) (sss_nil rfl))
    (sss_cons (ss_if (st_ne hu (SE.sb (se_call G_origins (hr.mono (by decide)) hg_origins tk_def (sa_cons (se_var rfl (i := 6)) (sa_cons (se_tup (sa_cons (se_str rfl) (sa_cons (se_int rfl) (sa_cons (se_int rfl) (sa_nil rfl))))) (sa_nil rfl))))) (SE.sb (SN.se (sn_lst (sa_cons (se_tup (sa_cons (se_str rfl) (sa_cons (se_int rfl) (sa_nil rfl)))) (sa_cons (se_tup (sa_cons (se_str rfl) (sa_cons (se_int rfl) (sa_nil rfl)))) (sa_cons (se_tup (sa_cons (se_str rfl) (sa_cons (se_int rfl) (sa_nil rfl)))) (sa_cons (se_tup (sa_cons (se_str rfl) (sa_cons (se_int rfl) (sa_nil rfl)))) (sa_cons (se_tup (sa_cons (se_str rfl) (sa_cons (se_int rfl) (sa_nil rfl)))) (sa_nil rfl)))))))))) (sss_one (ss_ret (se_bl rfl))) (sss_nil rfl))
    (sss_cons (ss_set (i := 3) (se_tup (sa_cons (se_tup (sa_cons (se_str rfl) (sa_cons (se_tup (sa_nil rfl)) (sa_nil rfl)))) (sa_cons (se_tup (sa_cons (se_non rfl) (sa_cons (se_tup (sa_cons (se_tup (sa_cons (se_str rfl) (sa_cons (se_int rfl) (sa_nil rfl)))) (sa_cons (se_tup (sa_cons (se_str rfl) (sa_cons (se_int rfl) (sa_nil rfl)))) (sa_nil rfl)))) (sa_nil rfl)))) (sa_nil rfl)))) sc.nd)
    (sss_cons (ss_setLc (i := 4) (own := [("_law_way", 10)]) (t := (.one 10)) (SI.sic (si_seq (se_tup (sa_cons (se_var rfl (i := 7)) (sa_cons (se_var rfl (i := 9)) (sa_nil rfl)))))) sc.nd (blkOk_by (by kernel_rfl)) (by decide) (fun s H C cl fp => (sg_one (i := 10) sc.nd)) (fun s H C cl fp => sts_nil) (fun s H C cl fp => (se_sliceT (SE.sb (se_prop (k := 0) (se_callO (k := 1) (se_var rfl (i := 10)) (sa_cons (se_var rfl (i := 6)) (sa_cons (se_tup (sa_cons (se_str rfl) (sa_cons (se_var rfl (i := 3)) (sa_nil rfl)))) (sa_nil rfl))) hco_Way hm_Way_call G_Way_call (hr.mono (by decide)) tk_in) (hC.sc 0 (by decide)) hp_Steps_rows G_Steps_rows (hr.mono (by decide)))) (so_some (SE.sb (se_int rfl))) (so_none rfl))))
    (sss_cons (ss_if (SW.st (sw_or (st_ne hu (sb_var rfl (i := 4)) (SE.sb (SN.se (sn_lst (sa_cons (se_var rfl (i := 3)) (sa_cons (se_tup (sa_cons (se_tup (sa_cons (se_str rfl) (sa_cons (se_tup (sa_nil rfl)) (sa_nil rfl)))) (sa_cons (se_tup (sa_cons (se_non rfl) (sa_cons (se_tup (sa_cons (se_tup (sa_cons (se_str rfl) (sa_cons (se_int rfl) (sa_nil rfl)))) (sa_cons (se_tup (sa_cons (se_str rfl) (sa_cons (se_int rfl) (sa_nil rfl)))) (sa_nil rfl)))) (sa_nil rfl)))) (sa_nil rfl)))) (sa_nil rfl))))))) (sw_or1 (st_ne hu (SE.sb (se_call G_astray (hr.mono (by decide)) hg_astray tk_def (sa_cons (se_var rfl (i := 7)) (sa_cons (se_var rfl (i := 6)) (sa_cons (se_tup (sa_cons (se_str rfl) (sa_cons (se_var rfl (i := 3)) (sa_nil rfl)))) (sa_nil rfl)))))) (SE.sb (SN.se (sn_lst (sa_cons (se_tup (sa_cons (se_int rfl) (sa_cons (se_int rfl) (sa_nil rfl)))) (sa_cons (se_tup (sa_cons (se_int rfl) (sa_cons (se_int rfl) (sa_nil rfl)))) (sa_nil rfl)))))))))) (sss_one (ss_ret (se_bl rfl))) (sss_nil rfl))
    (sss_cons (ss_set (i := 5) (se_cmetS (kc := 0) h_Steps hcm_Steps_of G_Steps_of (hr.mono (by decide)) tk_def (sa_cons (se_tup (sa_cons (se_non rfl) (sa_cons (se_tup (sa_cons (se_tup (sa_cons (se_str rfl) (sa_cons (se_int rfl) (sa_nil rfl)))) (sa_nil rfl))) (sa_nil rfl)))) (sa_cons (se_tup (sa_cons (se_non rfl) (sa_cons (se_tup (sa_nil rfl)) (sa_nil rfl)))) (sa_nil rfl)))) sc.nd)
    (sss_one (ss_ret (se_and (se_eq hu (SE.sb (se_ix (SE.sb (se_prop (k := 0) (se_callO (k := 1) (se_var rfl (i := 9)) (sa_cons (se_var rfl (i := 5)) (sa_cons (se_tup (sa_cons (se_str rfl) (sa_cons (se_int rfl) (sa_cons (se_int rfl) (sa_nil rfl))))) (sa_nil rfl))) hco_Way hm_Way_call G_Way_call (hr.mono (by decide)) tk_def) (hC.sc 0 (by decide)) hp_Steps_rows G_Steps_rows (hr.mono (by decide)))) (SE.sb (se_int rfl)))) (SE.sb (se_ixO (k := 0) (se_var rfl (i := 5)) (se_int rfl) hm_Steps_getitem (fi_of hm_Steps_getitem hgi_Steps) G_Steps_getitem (hr.mono (by decide)) tk_def))) (se_and1 (se_eq hu (SE.sb (se_ix (SE.sb (se_prop (k := 0) (se_callO (k := 1) (se_var rfl (i := 9)) (sa_cons (se_var rfl (i := 5)) (sa_cons (se_tup (sa_cons (se_str rfl) (sa_cons (se_int rfl) (sa_cons (se_int rfl) (sa_nil rfl))))) (sa_nil rfl))) hco_Way hm_Way_call G_Way_call (hr.mono (by decide)) tk_def) (hC.sc 0 (by decide)) hp_Steps_rows G_Steps_rows (hr.mono (by decide)))) (SE.sb (se_int rfl)))) (SE.sb (se_tup (sa_cons (se_non rfl) (sa_cons (se_tup (sa_cons (se_tup (sa_cons (se_str rfl) (sa_cons (se_int rfl) (sa_nil rfl)))) (sa_nil rfl))) (sa_nil rfl))))))))))))))))))))))))))))⟩
theorem sc_are_words : FnScope ["thing", "spots", "one", "two"] ["thing"] (defScope (top 47)) := ⟨rfl, rfl, rfl, by decide +kernel, rfl, by decide +kernel, by decide +kernel⟩
theorem F_are_words (T : Fc c w mg) : ∃ ad, mg "are_words" = some (.ref ad) ∧ Fn c P w mg base 1 ad 1 m_are_words := by
  have h_tuple := T.g_tuple
  have h_isinstance := T.g_isinstance
  have h_str := T.g_str
  obtain ⟨_, h_ALL_WORDS⟩ := T.g_ALL_WORDS
  have h_all := T.g_all
  have h_zip := T.g_zip
  have hC := T.C
  obtain ⟨ad, fd, hmg, F⟩ := T.f_are_words
  exact ⟨_, hmg, fn_mk (k := 0) F sc_are_words (F.bindsN fun _ _ _ _ _ _ us hl => match us, hl with | [_], _ => rfl) (fun cdv A outer s H E hr => by
    have sc := sc_are_words
    have hu := hr.units
    have hu1 := hu_of hr
    exact (sss_cons (ss_if (SW.st (sw_or (st_not (st_val (se_isi (sab_cons (sb_var rfl (i := 0)) (sab_cons (SE.sb (se_bltn (v := .ty "tuple") rfl (by rfl) h_tuple boot_tuple rfl (fun _ => .ty _))) (sab_nil rfl))) h_isinstance))) (sw_or1 (st_not (st_val (se_all (sab_cons (SE.sb (SN.se (sn_lc (own := [("one", 2)]) (t := (.one 2)) (SI.sic (si_seq (se_var rfl (i := 0)))) sc.nd (blkOk_by (by kernel_rfl)) (by decide) (fun s H C cl fp => (sg_one (i := 2) sc.nd)) (fun s H C cl fp => sts_nil) (fun s H C cl fp => (se_and (se_isi (sab_cons (sb_var rfl (i := 2)) (sab_cons (SE.sb (se_bltn (v := .ty "str") rfl (by rfl) h_str (by decide +kernel) rfl (fun _ => .ty _))) (sab_nil rfl))) h_isinstance) (se_and1 (se_in hu (sb_var rfl (i := 2)) (SE.sb (se_glob (v := .ref _) rfl (by rfl) h_ALL_WORDS.1 rfl (h_ALL_WORDS.2.rep (by decide))))))))))) (sab_nil rfl)) h_all)))))) (sss_one (ss_ret (se_bl rfl))) (sss_nil rfl))
    (sss_cons (ss_setLc (i := 1) (own := [("one", 2)]) (t := (.one 2)) (SI.sic (si_seq (se_var rfl (i := 0)))) sc.nd (blkOk_by (by kernel_rfl)) (by decide) (fun s H C cl fp => (sg_one (i := 2) sc.nd)) (fun s H C cl fp => sts_nil) (fun s H C cl fp => (se_kidx h_ALL_WORDS.2 (by rfl) h_ALL_WORDS.1 (se_var rfl (i := 2)))))
    (sss_one (ss_frz [1] (ss_ret (se_all (sab_cons (SE.sb (SN.se (sn_lc (own := [("one", 2), ("two", 3)]) (t := (.tup [2, 3])) (SI.sic (si_zip (se_var rfl (i := 1)) (SN.se (sn_slice (sb_var rfl (i := 1)) (so_some (SE.sb (se_int rfl))) (so_none rfl))) h_zip)) sc.nd (blkOk_by (by kernel_rfl)) (by decide) (fun s H C cl fp => (sg_tup (sgs_cons (i := 2) (sgs_cons (i := 3) sgs_nil sc.nd) sc.nd))) (fun s H C cl fp => sts_nil) (fun s H C cl fp => (se_lt (sb_var rfl (i := 2)) (sb_var rfl (i := 3))))))) (sab_nil rfl)) h_all)))))))⟩
theorem sc_Plan_init : FnScope ["self", "way", "words", "most"] ["self", "way", "words", "most"] (defScope (inClass (top 48) 1)) := ⟨rfl, rfl, rfl, by decide +kernel, rfl, by decide +kernel, by decide +kernel⟩
theorem F_Plan_init (T : Fc c w mg) : ∃ ad fd, Mk c.K (c.cls 2) ad ∧ FnOk P w c.K mg base (L2.CX P w) 2 ad fd ["self", "way", "words", "most"] (PromI c 3 2 m_Plan_init) ∧ FunD c.K "__init__" "Plan.__init__" (defArgs (inClass (top 48) 1)) (defBody (inClass (top 48) 1)) (defScope (inClass (top 48) 1)) [] [("most", .int 4)] ad fd := by
  have h_Way := T.g_Way
  have h_isinstance := T.g_isinstance
  obtain ⟨_, h_MOST_MOST⟩ := T.g_MOST_MOST
  obtain ⟨_, hs_Plan_own_way⟩ := T.s_Plan_own_way
  obtain ⟨_, hs_Plan_own_words⟩ := T.s_Plan_own_words
  obtain ⟨_, hs_Plan_own_most⟩ := T.s_Plan_own_most
  have hC := T.C
  obtain ⟨_, hg_are_words, G_are_words⟩ := F_are_words (P := P) (base := base) T
  obtain ⟨_, hg_is_number, G_is_number⟩ := F_is_number (P := P) (base := base) T
  obtain ⟨ad, fd, hM, F⟩ := T.f_Plan_init
  exact ⟨ad, fd, hM, initOk_mk (k := 1) F sc_Plan_init rfl (by decide) (fun cdv A outer s H E hr => by
    have sc := sc_Plan_init
    have hu := hr.units
    have hu1 := hu_of hr
    exact (sss_cons (ss_if (st_not (st_val (se_iso hC (sab_cons (sb_var rfl (i := 1)) (sab_cons (SE.sb (se_glob (v := .ref (c.cls 1)) rfl (by rfl) h_Way rfl (fun _ => .cls _))) (sab_nil rfl))) h_isinstance))) (sss_one (ss_never rfl)) (sss_nil rfl))
    (sss_cons (ss_if (st_not (st_val (se_call G_are_words (hr.mono (by decide)) hg_are_words tk_def (sa_cons (se_var rfl (i := 2)) (sa_nil rfl))))) (sss_one (ss_never rfl)) (sss_nil rfl))
    (sss_cons (ss_if (st_not (st_val (se_call G_is_number (hr.mono (by decide)) hg_is_number tk_def (sa_cons (se_var rfl (i := 3)) (sa_cons (se_int rfl) (sa_cons (se_glob rfl (by rfl) h_MOST_MOST.1 h_MOST_MOST.2 (fun _ => .int _)) (sa_nil rfl))))))) (sss_one (ss_never rfl)) (sss_nil rfl))
    (sss_cons (ss_self (k := 2) (i := 1) (se_var rfl (i := 1)) (hC.sc 2 (by decide)) hs_Plan_own_way)
    (sss_cons (ss_self (k := 2) (i := 2) (se_var rfl (i := 2)) (hC.sc 2 (by decide)) hs_Plan_own_words)
    (sss_one (ss_self (k := 2) (i := 0) (se_var rfl (i := 3)) (hC.sc 2 (by decide)) hs_Plan_own_most)))))))), F⟩
theorem sc_check_plan : FnScope ["thing"] ["thing"] (defScope (top 49)) := ⟨rfl, rfl, rfl, by decide +kernel, rfl, by decide +kernel, by decide +kernel⟩
theorem F_check_plan (T : Fc c w mg) : ∃ ad, mg "check_plan" = some (.ref ad) ∧ Fn c P w mg base 1 ad 1 m_check_plan := by
  have h_Plan := T.g_Plan
  have h_isinstance := T.g_isinstance
  have hC := T.C
  obtain ⟨ad, fd, hmg, F⟩ := T.f_check_plan
  exact ⟨_, hmg, fn_mk (k := 0) F sc_check_plan (F.bindsN fun _ _ _ _ _ _ us hl => match us, hl with | [_], _ => rfl) (fun cdv A outer s H E hr => by
    have sc := sc_check_plan
    have hu := hr.units
    have hu1 := hu_of hr
    exact (sss_one (ss_if (st_not (st_val (se_iso hC (sab_cons (sb_var rfl (i := 0)) (sab_cons (SE.sb (se_glob (v := .ref (c.cls 2)) rfl (by rfl) h_Plan rfl (fun _ => .cls _))) (sab_nil rfl))) h_isinstance))) (sss_one (ss_never rfl)) (sss_nil rfl))))⟩
theorem sc_Steps_len : FnScope ["self"] ["self"] (defScope (inClass (top 27) 5)) := ⟨rfl, rfl, rfl, by decide +kernel, rfl, by decide +kernel, by decide +kernel⟩
theorem F_Steps_len (T : Fc c w mg) : ∃ ad, Meth c.K (c.cls 0) "__len__" ad ∧ Fn c P w mg base 1 ad 1 m_Steps_len := by
  obtain ⟨_, hs_Steps_line⟩ := T.s_Steps_line
  have h_len := T.g_len
  have hC := T.C
  obtain ⟨ad, fd, hmg, F⟩ := T.f_Steps_len
  exact ⟨_, hmg, fn_mk (k := 0) F sc_Steps_len (F.bindsN fun _ _ _ _ _ _ us hl => match us, hl with | [_], _ => rfl) (fun cdv A outer s H E hr => by
    have sc := sc_Steps_len
    have hu := hr.units
    have hu1 := hu_of hr
    exact (sss_one (ss_ret (se_len (sab_cons (SE.sb (se_attr (k := 0) (i := 0) (se_var rfl (i := 0)) (hC.sc 0 (by decide)) hs_Steps_line)) (sab_nil rfl)) h_len))))⟩
theorem sc_Plan_most : FnScope ["self"] ["self"] (defScope (inClass (top 48) 4)) := ⟨rfl, rfl, rfl, by decide +kernel, rfl, by decide +kernel, by decide +kernel⟩
theorem F_Plan_most (T : Fc c w mg) : ∃ p ad, Prp c.K (c.cls 2) "most" p ad ∧ Fn c P w mg base 1 ad 1 m_Plan_most := by
  obtain ⟨_, hs_Plan_own_most⟩ := T.s_Plan_own_most
  have hC := T.C
  obtain ⟨p, ad, fd, hP, F⟩ := T.f_Plan_most
  exact ⟨p, ad, hP, fn_mk (k := 0) F sc_Plan_most (F.bindsN fun _ _ _ _ _ _ us hl => match us, hl with | [_], _ => rfl) (fun cdv A outer s H E hr => by
    have sc := sc_Plan_most
    have hu := hr.units
    have hu1 := hu_of hr
    exact (sss_one (ss_ret (se_attr (k := 2) (i := 0) (se_var rfl (i := 0)) (hC.sc 2 (by decide)) hs_Plan_own_most))))⟩
theorem sc_check_for : FnScope ["plan", "steps"] ["plan", "steps"] (defScope (top 50)) := ⟨rfl, rfl, rfl, by decide +kernel, rfl, by decide +kernel, by decide +kernel⟩
theorem F_check_for (T : Fc c w mg) : ∃ ad, mg "check_for" = some (.ref ad) ∧ Fn c P w mg base 3 ad 2 m_check_for := by
  have h_len := T.g_len
  have hC := T.C
  obtain ⟨_, hg_check_plan, G_check_plan⟩ := F_check_plan (P := P) (base := base) T
  obtain ⟨_, hg_check_steps, G_check_steps⟩ := F_check_steps (P := P) (base := base) T
  obtain ⟨_, hm_Steps_len, G_Steps_len⟩ := F_Steps_len (P := P) (base := base) T
  obtain ⟨_, _, hp_Plan_most, G_Plan_most⟩ := F_Plan_most (P := P) (base := base) T
  obtain ⟨ad, fd, hmg, F⟩ := T.f_check_for
  exact ⟨_, hmg, fn_mk (k := 2) F sc_check_for (F.bindsN fun _ _ _ _ _ _ us hl => match us, hl with | [_, _], _ => rfl) (fun cdv A outer s H E hr => by
    have sc := sc_check_for
    have hu := hr.units
    have hu1 := hu_of hr
    exact (sss_cons (ss_expr (se_call G_check_plan (hr.mono (by decide)) hg_check_plan tk_def (sa_cons (se_var rfl (i := 0)) (sa_nil rfl))))
    (sss_cons (ss_expr (se_call G_check_steps (hr.mono (by decide)) hg_check_steps tk_def (sa_cons (se_var rfl (i := 1)) (sa_nil rfl))))
    (sss_one (ss_if (st_gt (SE.sb (se_lenO (k := 0) (se_var rfl (i := 1)) h_len (hC.sc 0 (by decide)) hm_Steps_len G_Steps_len (hr.mono (by decide)))) (SE.sb (se_prop (k := 2) (se_var rfl (i := 0)) (hC.sc 2 (by decide)) hp_Plan_most G_Plan_most (hr.mono (by decide))))) (sss_one (ss_never rfl)) (sss_nil rfl))))))⟩
theorem sc_Plan_words : FnScope ["self"] ["self"] (defScope (inClass (top 48) 3)) := ⟨rfl, rfl, rfl, by decide +kernel, rfl, by decide +kernel, by decide +kernel⟩
theorem F_Plan_words (T : Fc c w mg) : ∃ p ad, Prp c.K (c.cls 2) "words" p ad ∧ Fn c P w mg base 1 ad 1 m_Plan_words := by
  obtain ⟨_, hs_Plan_own_words⟩ := T.s_Plan_own_words
  have hC := T.C
  obtain ⟨p, ad, fd, hP, F⟩ := T.f_Plan_words
  exact ⟨p, ad, hP, fn_mk (k := 0) F sc_Plan_words (F.bindsN fun _ _ _ _ _ _ us hl => match us, hl with | [_], _ => rfl) (fun cdv A outer s H E hr => by
    have sc := sc_Plan_words
    have hu := hr.units
    have hu1 := hu_of hr
    exact (sss_one (ss_ret (se_attr (k := 2) (i := 2) (se_var rfl (i := 0)) (hC.sc 2 (by decide)) hs_Plan_own_words))))⟩
theorem sc_is_free : FnScope ["rows", "at", "spot"] ["rows", "at"] (defScope (top 51)) := ⟨rfl, rfl, rfl, by decide +kernel, rfl, by decide +kernel, by decide +kernel⟩
theorem F_is_free (T : Fc c w mg) : ∃ ad, mg "is_free" = some (.ref ad) ∧ Fn c P w mg base 4 ad 2 m_is_free := by
  have h_any := T.g_any
  have hC := T.C
  obtain ⟨_, hg_all_spots, G_all_spots⟩ := F_all_spots (P := P) (base := base) T
  obtain ⟨_, hg_meant_at, G_meant_at⟩ := F_meant_at (P := P) (base := base) T
  obtain ⟨ad, fd, hmg, F⟩ := T.f_is_free
  exact ⟨_, hmg, fn_mk (k := 3) F sc_is_free (F.bindsN fun _ _ _ _ _ _ us hl => match us, hl with | [_, _], _ => rfl) (fun cdv A outer s H E hr => by
    have sc := sc_is_free
    have hu := hr.units
    have hu1 := hu_of hr
    exact (sss_one (ss_ret (se_not (se_any (sab_cons (SE.sb (SN.se (sn_lc (own := [("spot", 2)]) (t := (.one 2)) (SI.sic (si_seq (se_call G_all_spots (hr.mono (by decide)) hg_all_spots tk_def (sa_cons (se_var rfl (i := 0)) (sa_nil rfl))))) sc.nd (blkOk_by (by kernel_rfl)) (by decide) (fun s H C cl fp => (sg_one (i := 2) sc.nd)) (fun s H C cl fp => sts_nil) (fun s H C cl fp => (se_and (se_ne hu (SE.sb (se_ix (sb_var rfl (i := 2)) (SE.sb (se_int rfl)))) (sb_var rfl (i := 1))) (se_and1 (se_eq hu (SE.sb (se_call G_meant_at (hr.mono (by decide)) hg_meant_at tk_in (sa_cons (se_var rfl (i := 0)) (sa_cons (se_var rfl (i := 2)) (sa_nil rfl))))) (sb_var rfl (i := 1))))))))) (sab_nil rfl)) h_any)))))⟩
theorem sc_is_allowed : FnScope ["plan", "rows", "edit"] ["plan", "rows", "edit"] (defScope (top 52)) := ⟨rfl, rfl, rfl, by decide +kernel, rfl, by decide +kernel, by decide +kernel⟩
theorem F_is_allowed (T : Fc c w mg) : ∃ ad, mg "is_allowed" = some (.ref ad) ∧ Fn c P w mg base 6 ad 3 m_is_allowed := by
  have h_len := T.g_len
  have hC := T.C
  obtain ⟨_, hg_is_edit, G_is_edit⟩ := F_is_edit (P := P) (base := base) T
  obtain ⟨_, _, hp_Plan_most, G_Plan_most⟩ := F_Plan_most (P := P) (base := base) T
  obtain ⟨_, _, hp_Plan_words, G_Plan_words⟩ := F_Plan_words (P := P) (base := base) T
  obtain ⟨_, hg_is_free, G_is_free⟩ := F_is_free (P := P) (base := base) T
  obtain ⟨ad, fd, hmg, F⟩ := T.f_is_allowed
  exact ⟨_, hmg, fn_mk (k := 5) F sc_is_allowed (F.bindsN fun _ _ _ _ _ _ us hl => match us, hl with | [_, _, _], _ => rfl) (fun cdv A outer s H E hr => by
    have sc := sc_is_allowed
    have hu := hr.units
    have hu1 := hu_of hr
    exact (sss_cons (ss_if (SW.st (sw_or (st_not (st_val (se_call G_is_edit (hr.mono (by decide)) hg_is_edit tk_def (sa_cons (se_var rfl (i := 1)) (sa_cons (se_var rfl (i := 2)) (sa_nil rfl)))))) (sw_or (st_eq hu (SE.sb (se_ix (sb_var rfl (i := 2)) (SE.sb (se_int rfl)))) (SE.sb (se_str rfl))) (sw_or1 (SW.st (sw_and (st_in hu (SE.sb (se_ix (sb_var rfl (i := 2)) (SE.sb (se_int rfl)))) (SE.sb (se_tup (sa_cons (se_str rfl) (sa_cons (se_str rfl) (sa_nil rfl)))))) (sw_and1 (st_ge (SE.sb (se_len (sab_cons (sb_var rfl (i := 1)) (sab_nil rfl)) h_len)) (SE.sb (se_prop (k := 2) (se_var rfl (i := 0)) (hC.sc 2 (by decide)) hp_Plan_most G_Plan_most (hr.mono (by decide)))))))))))) (sss_one (ss_ret (se_bl rfl))) (sss_nil rfl))
    (sss_cons (ss_if (st_in hu (SE.sb (se_ix (sb_var rfl (i := 2)) (SE.sb (se_int rfl)))) (SE.sb (se_prop (k := 2) (se_var rfl (i := 0)) (hC.sc 2 (by decide)) hp_Plan_words G_Plan_words (hr.mono (by decide))))) (sss_one (ss_ret (se_bl rfl))) (sss_nil rfl))
    (sss_cons (ss_if (st_eq hu (SE.sb (se_ix (sb_var rfl (i := 2)) (SE.sb (se_int rfl)))) (SE.sb (se_str rfl))) (sss_one (ss_ret (se_and (se_in hu (SE.sb (se_str rfl)) (SE.sb (se_prop (k := 2) (se_var rfl (i := 0)) (hC.sc 2 (by decide)) hp_Plan_words G_Plan_words (hr.mono (by decide))))) (se_and1 (se_eq hu (SE.sb (se_ix (sb_var rfl (i := 2)) (SE.sb (se_int rfl)))) (SE.sb (se_len (sab_cons (sb_var rfl (i := 1)) (sab_nil rfl)) h_len))))))) (sss_nil rfl))
    (sss_one (ss_ret (se_and (se_eq hu (SE.sb (se_ix (sb_var rfl (i := 2)) (SE.sb (se_int rfl)))) (SE.sb (se_str rfl))) (se_and (se_in hu (SE.sb (se_str rfl)) (SE.sb (se_prop (k := 2) (se_var rfl (i := 0)) (hC.sc 2 (by decide)) hp_Plan_words G_Plan_words (hr.mono (by decide))))) (se_and1 (se_call G_is_free (hr.mono (by decide)) hg_is_free tk_def (sa_cons (se_var rfl (i := 1)) (sa_cons (se_ix (sb_var rfl (i := 2)) (SE.sb (se_int rfl))) (sa_nil rfl)))))))))))))⟩
theorem sc_all_allowed : FnScope ["plan", "rows", "many", "every", "one", "two", "edit"] ["plan", "rows"] (defScope (top 53)) := ⟨rfl, rfl, rfl, by decide +kernel, rfl, by decide +kernel, by decide +kernel⟩
theorem F_all_allowed (T : Fc c w mg) : ∃ ad, mg "all_allowed" = some (.ref ad) ∧ Fn c P w mg base 7 ad 2 m_all_allowed := by
  have h_len := T.g_len
  have h_range := T.g_range
  have hC := T.C
  obtain ⟨_, hg_is_allowed, G_is_allowed⟩ := F_is_allowed (P := P) (base := base) T
  obtain ⟨ad, fd, hmg, F⟩ := T.f_all_allowed
  exact ⟨_, hmg, fn_mk (k := 6) F sc_all_allowed (F.bindsN fun _ _ _ _ _ _ us hl => match us, hl with | [_, _], _ => rfl) (fun cdv A outer s H E hr => by
    have sc := sc_all_allowed
    have hu := hr.units
    have hu1 := hu_of hr
    exact (sss_cons (ss_set (i := 2) (se_len (sab_cons (sb_var rfl (i := 1)) (sab_nil rfl)) h_len) sc.nd)
    (sss_cons (ss_setLc2 (i := 3) (own := [("one", 4), ("two", 5)]) (t := (.one 4)) (t1 := (.one 5)) (vs1 := [5]) (SI.sic (si_range1 (sa_cons (se_var rfl (i := 2)) (sa_nil rfl)) h_range)) sc.nd (blkOk_by (by kernel_rfl)) (by decide) (by decide) (by decide) (fun s H C cl fp => (sg_one (i := 4) sc.nd)) (fun s H C cl fp => sts_nil) (fun s H C cl fp => (si_range1 (sa_cons (se_add (sb_var rfl (i := 2)) (SE.sb (se_int rfl))) (sa_nil rfl)) h_range)) (fun s H C cl fp => (sg_one (i := 5) sc.nd)) (fun s H C cl fp => sts_nil) (fun s H C cl fp => (se_tup (sa_cons (se_str rfl) (sa_cons (se_var rfl (i := 4)) (sa_cons (se_var rfl (i := 5)) (sa_nil rfl)))))))
    (sss_cons (ss_setN (i := 3) (sn_lst (sa_star (sb_var rfl (i := 3)) (sa_star (SE.sb (SN.se (sn_lc2 (own := [("one", 4), ("two", 5)]) (t := (.one 4)) (t1 := (.one 5)) (vs1 := [5]) (SI.sic (si_range1 (sa_cons (se_var rfl (i := 2)) (sa_nil rfl)) h_range)) sc.nd (blkOk_by (by kernel_rfl)) (by decide) (by decide) (by decide) (fun s H C cl fp => (sg_one (i := 4) sc.nd)) (fun s H C cl fp => sts_nil) (fun s H C cl fp => (si_range1 (sa_cons (se_var rfl (i := 2)) (sa_nil rfl)) h_range)) (fun s H C cl fp => (sg_one (i := 5) sc.nd)) (fun s H C cl fp => sts_nil) (fun s H C cl fp => (se_tup (sa_cons (se_str rfl) (sa_cons (se_var rfl (i := 4)) (sa_cons (se_var rfl (i := 5)) (sa_nil rfl))))))))) (sa_nil rfl)))) sc.nd)
    (sss_cons (ss_setN (i := 3) (sn_lst (sa_star (sb_var rfl (i := 3)) (sa_star (SE.sb (SN.se (sn_lc (own := [("one", 4)]) (t := (.one 4)) (SI.sic (si_range1 (sa_cons (se_var rfl (i := 2)) (sa_nil rfl)) h_range)) sc.nd (blkOk_by (by kernel_rfl)) (by decide) (fun s H C cl fp => (sg_one (i := 4) sc.nd)) (fun s H C cl fp => sts_nil) (fun s H C cl fp => (se_tup (sa_cons (se_str rfl) (sa_cons (se_var rfl (i := 4)) (sa_nil rfl)))))))) (sa_star (SE.sb (SN.se (sn_lc (own := [("one", 4)]) (t := (.one 4)) (SI.sic (si_range1 (sa_cons (se_add (sb_var rfl (i := 2)) (SE.sb (se_int rfl))) (sa_nil rfl)) h_range)) sc.nd (blkOk_by (by kernel_rfl)) (by decide) (fun s H C cl fp => (sg_one (i := 4) sc.nd)) (fun s H C cl fp => sts_nil) (fun s H C cl fp => (se_tup (sa_cons (se_str rfl) (sa_cons (se_var rfl (i := 4)) (sa_nil rfl)))))))) (sa_nil rfl))))) sc.nd)
    (sss_one (ss_ret (SN.se (sn_lc (own := [("edit", 6)]) (t := (.one 6)) (sic_own (sb_var rfl (i := 3))) sc.nd (blkOk_by (by kernel_rfl)) (by decide) (fun s H C cl fp => (sg_one (i := 6) sc.nd)) (fun s H C cl fp => (sts_one (st_val (se_call G_is_allowed (hr.mono (by decide)) hg_is_allowed tk_in (sa_cons (se_var rfl (i := 0)) (sa_cons (se_var rfl (i := 1)) (sa_cons (se_var rfl (i := 6)) (sa_nil rfl)))))))) (fun s H C cl fp => (se_var rfl (i := 6))))))))))))⟩
theorem sc_allowed : FnScope ["plan", "steps"] ["plan", "steps"] (defScope (top 54)) := ⟨rfl, rfl, rfl, by decide +kernel, rfl, by decide +kernel, by decide +kernel⟩
theorem F_allowed (T : Fc c w mg) : ∃ ad, mg "allowed" = some (.ref ad) ∧ Fn c P w mg base 8 ad 2 m_allowed := by
  have hC := T.C
  obtain ⟨_, hg_check_for, G_check_for⟩ := F_check_for (P := P) (base := base) T
  obtain ⟨_, hg_all_allowed, G_all_allowed⟩ := F_all_allowed (P := P) (base := base) T
  obtain ⟨_, _, hp_Steps_rows, G_Steps_rows⟩ := F_Steps_rows (P := P) (base := base) T
  obtain ⟨ad, fd, hmg, F⟩ := T.f_allowed
  exact ⟨_, hmg, fn_mk (k := 7) F sc_allowed (F.bindsN fun _ _ _ _ _ _ us hl => match us, hl with | [_, _], _ => rfl) (fun cdv A outer s H E hr => by
    have sc := sc_allowed
    have hu := hr.units
    have hu1 := hu_of hr
    exact (sss_cons (ss_expr (se_call G_check_for (hr.mono (by decide)) hg_check_for tk_def (sa_cons (se_var rfl (i := 0)) (sa_cons (se_var rfl (i := 1)) (sa_nil rfl)))))
    (sss_one (ss_ret (se_call G_all_allowed (hr.mono (by decide)) hg_all_allowed tk_def (sa_cons (se_var rfl (i := 0)) (sa_cons (se_prop (k := 0) (se_var rfl (i := 1)) (hC.sc 0 (by decide)) hp_Steps_rows G_Steps_rows (hr.mono (by decide))) (sa_nil rfl))))))))⟩
theorem sc_Sure_init : FnScope ["self", "lists"] ["self", "lists"] (defScope (inClass (top 59) 1)) := ⟨rfl, rfl, rfl, by decide +kernel, rfl, by decide +kernel, by decide +kernel⟩
theorem F_Sure_init (T : Fc c w mg) : ∃ ad fd, Mk c.K (c.cls 3) ad ∧ FnOk P w c.K mg base (L2.CX P w) 1 ad fd ["self", "lists"] (PromI c 1 3 m_Sure_init) ∧ Binds c.K fd ["self", "lists"] [] := by
  obtain ⟨_, hs_Sure_lists⟩ := T.s_Sure_lists
  have h_list := T.g_list
  have hC := T.C
  obtain ⟨ad, fd, hM, F⟩ := T.f_Sure_init
  exact ⟨ad, fd, hM, initOk_mk (k := 0) F sc_Sure_init rfl (by decide) (fun cdv A outer s H E hr => by
    have sc := sc_Sure_init
    have hu := hr.units
    have hu1 := hu_of hr
    exact (sss_one (ss_self (k := 3) (i := 0) (SN.se (sn_list (sab_cons (sb_var rfl (i := 1)) (sab_nil rfl)) h_list)) (hC.sc 3 (by decide)) hs_Sure_lists))), (F.bindsN fun _ _ _ _ _ _ us hl => match us, hl with | [_, _], _ => rfl)⟩
theorem sc_check_whole : FnScope ["plan", "steps"] ["plan", "steps"] (defScope (top 58)) := ⟨rfl, rfl, rfl, by decide +kernel, rfl, by decide +kernel, by decide +kernel⟩
theorem F_check_whole (T : Fc c w mg) : ∃ ad, mg "check_whole" = some (.ref ad) ∧ Fn c P w mg base 6 ad 2 m_check_whole := by
  have hC := T.C
  obtain ⟨_, hg_check_for, G_check_for⟩ := F_check_for (P := P) (base := base) T
  obtain ⟨_, hm_Steps_is_whole, G_Steps_is_whole⟩ := F_Steps_is_whole (P := P) (base := base) T
  obtain ⟨ad, fd, hmg, F⟩ := T.f_check_whole
  exact ⟨_, hmg, fn_mk (k := 5) F sc_check_whole (F.bindsN fun _ _ _ _ _ _ us hl => match us, hl with | [_, _], _ => rfl) (fun cdv A outer s H E hr => by
    have sc := sc_check_whole
    have hu := hr.units
    have hu1 := hu_of hr
    exact (sss_cons (ss_expr (se_call G_check_for (hr.mono (by decide)) hg_check_for tk_def (sa_cons (se_var rfl (i := 0)) (sa_cons (se_var rfl (i := 1)) (sa_nil rfl)))))
    (sss_one (ss_if (st_not (st_val (se_meth0 (k := 0) (se_var rfl (i := 1)) (hC.sc 0 (by decide)) hm_Steps_is_whole G_Steps_is_whole (hr.mono (by decide)) tk_def))) (sss_one (ss_never rfl)) (sss_nil rfl)))))⟩
theorem sc_Plan_way : FnScope ["self"] ["self"] (defScope (inClass (top 48) 2)) := ⟨rfl, rfl, rfl, by decide +kernel, rfl, by decide +kernel, by decide +kernel⟩
theorem F_Plan_way (T : Fc c w mg) : ∃ p ad, Prp c.K (c.cls 2) "way" p ad ∧ Fn c P w mg base 1 ad 1 m_Plan_way := by
  obtain ⟨_, hs_Plan_own_way⟩ := T.s_Plan_own_way
  have hC := T.C
  obtain ⟨p, ad, fd, hP, F⟩ := T.f_Plan_way
  exact ⟨p, ad, hP, fn_mk (k := 0) F sc_Plan_way (F.bindsN fun _ _ _ _ _ _ us hl => match us, hl with | [_], _ => rfl) (fun cdv A outer s H E hr => by
    have sc := sc_Plan_way
    have hu := hr.units
    have hu1 := hu_of hr
    exact (sss_one (ss_ret (se_attr (k := 2) (i := 1) (se_var rfl (i := 0)) (hC.sc 2 (by decide)) hs_Plan_own_way))))⟩
theorem sc_holds : FnScope ["plan", "rows", "known", "edit", "later", "bad"] ["plan", "rows", "known"] (defScope (top 60)) := ⟨rfl, rfl, rfl, by decide +kernel, rfl, by decide +kernel, by decide +kernel⟩
theorem F_holds (T : Fc c w mg) : ∃ ad, mg "holds" = some (.ref ad) ∧ Fn c P w mg base 8 ad 3 m_holds := by
  have h_len := T.g_len
  have hcw : w = c.w := T.cw.symm
  have hC := T.C
  obtain ⟨_, hg_are_rows, G_are_rows⟩ := F_are_rows (P := P) (base := base) T
  obtain ⟨_, _, hp_Plan_most, G_Plan_most⟩ := F_Plan_most (P := P) (base := base) T
  obtain ⟨_, hg_are_whole, G_are_whole⟩ := F_are_whole (P := P) (base := base) T
  obtain ⟨_, hg_all_allowed, G_all_allowed⟩ := F_all_allowed (P := P) (base := base) T
  obtain ⟨_, hg_edited, G_edited⟩ := F_edited (P := P) (base := base) T
  obtain ⟨_, _, hp_Plan_way, G_Plan_way⟩ := F_Plan_way (P := P) (base := base) T
  obtain ⟨_, _, hp_Way_words, G_Way_words⟩ := F_Way_words (P := P) (base := base) T
  obtain ⟨ad, fd, hmg, F⟩ := T.f_holds
  exact ⟨_, hmg, fn_mk (k := 7) F sc_holds (F.bindsN fun _ _ _ _ _ _ us hl => match us, hl with | [_, _, _], _ => rfl) (fun cdv A outer s H E hr => by
    have sc := sc_holds
    have hu := hr.units
    have hu1 := hu_of hr
    exact (sss_cons (ss_if (SW.st (sw_or (st_not (st_val (se_call G_are_rows (hr.mono (by decide)) hg_are_rows tk_def (sa_cons (se_var rfl (i := 1)) (sa_nil rfl))))) (sw_or (st_gt (SE.sb (se_len (sab_cons (sb_var rfl (i := 1)) (sab_nil rfl)) h_len)) (SE.sb (se_prop (k := 2) (se_var rfl (i := 0)) (hC.sc 2 (by decide)) hp_Plan_most G_Plan_most (hr.mono (by decide))))) (sw_or1 (st_not (st_val (se_call G_are_whole (hr.mono (by decide)) hg_are_whole tk_def (sa_cons (se_var rfl (i := 1)) (sa_nil rfl))))))))) (sss_one (ss_ret (se_bl rfl))) (sss_nil rfl))
    (sss_cons (ss_for (t := (.one 3)) (si_seq (se_call G_all_allowed (hr.mono (by decide)) hg_all_allowed tk_def (sa_cons (se_var rfl (i := 0)) (sa_cons (se_var rfl (i := 1)) (sa_nil rfl))))) (sg_one (i := 3) sc.nd) (sss_cons (ss_asgT (t := (.tup [4, 5])) (se_call G_edited (hr.mono (by decide)) hg_edited tk_def (sa_cons (se_prop (k := 1) (se_prop (k := 2) (se_var rfl (i := 0)) (hC.sc 2 (by decide)) hp_Plan_way G_Plan_way (hr.mono (by decide))) (hC.sc 1 (by decide)) hp_Way_words G_Way_words (hr.mono (by decide))) (sa_cons (se_var rfl (i := 1)) (sa_cons (se_var rfl (i := 3)) (sa_nil rfl))))) (sg_tup (sgs_cons (i := 4) (sgs_cons (i := 5) sgs_nil sc.nd) sc.nd)))
    (sss_one (ss_if (SW.st (sw_or (st_ne hu (sb_var rfl (i := 5)) (SE.sb (SN.se (sn_lst (sa_nil rfl))))) (sw_or1 (st_ninT hcw hu (sb_var rfl (i := 4)) (sb_var rfl (i := 2)))))) (sss_one (ss_ret (se_bl rfl))) (sss_nil rfl)))) pa_def)
    (sss_one (ss_ret (se_bl rfl))))))⟩
theorem sc_Sure_shows : FnScope ["self", "plan", "steps", "known", "rows"] ["self", "plan", "steps"] (defScope (inClass (top 59) 3)) := ⟨rfl, rfl, rfl, by decide +kernel, rfl, by decide +kernel, by decide +kernel⟩
theorem F_Sure_shows (T : Fc c w mg) : ∃ ad, Meth c.K (c.cls 3) "shows" ad ∧ Fn c P w mg base 9 ad 3 m_Sure_shows := by
  obtain ⟨_, hs_Sure_lists⟩ := T.s_Sure_lists
  have hcw : w = c.w := T.cw.symm
  have h_all := T.g_all
  have hC := T.C
  obtain ⟨_, hg_check_whole, G_check_whole⟩ := F_check_whole (P := P) (base := base) T
  obtain ⟨_, _, hp_Steps_rows, G_Steps_rows⟩ := F_Steps_rows (P := P) (base := base) T
  obtain ⟨_, hg_holds, G_holds⟩ := F_holds (P := P) (base := base) T
  obtain ⟨ad, fd, hmg, F⟩ := T.f_Sure_shows
  exact ⟨_, hmg, fn_mk (k := 8) F sc_Sure_shows (F.bindsN fun _ _ _ _ _ _ us hl => match us, hl with | [_, _, _], _ => rfl) (fun cdv A outer s H E hr => by
    have sc := sc_Sure_shows
    have hu := hr.units
    have hu1 := hu_of hr
    exact (sss_cons (ss_expr (se_call G_check_whole (hr.mono (by decide)) hg_check_whole tk_def (sa_cons (se_var rfl (i := 1)) (sa_cons (se_var rfl (i := 2)) (sa_nil rfl)))))
    (sss_cons (ss_set (i := 3) (se_dcX (own := [("rows", 4)]) (t := (.one 4)) hcw hu (SI.sic (si_seq (se_attr (k := 3) (i := 0) (se_var rfl (i := 0)) (hC.sc 3 (by decide)) hs_Sure_lists))) sc.nd (blkOk_by (by kernel_rfl)) (by decide) (fun s H C cl fp => (sg_one (i := 4) sc.nd)) (fun s H C cl fp => sts_nil) (fun s H C cl fp => (se_var rfl (i := 4))) (fun s H C cl fp => (se_bl rfl))) sc.nd)
    (sss_one (ss_ret (se_and (se_inT hcw hu (SE.sb (se_prop (k := 0) (se_var rfl (i := 2)) (hC.sc 0 (by decide)) hp_Steps_rows G_Steps_rows (hr.mono (by decide)))) (sb_var rfl (i := 3))) (se_and1 (se_all (sab_cons (SE.sb (SN.se (sn_lc (own := [("rows", 4)]) (t := (.one 4)) (SI.sic (si_seq (se_attr (k := 3) (i := 0) (se_var rfl (i := 0)) (hC.sc 3 (by decide)) hs_Sure_lists))) sc.nd (blkOk_by (by kernel_rfl)) (by decide) (fun s H C cl fp => (sg_one (i := 4) sc.nd)) (fun s H C cl fp => sts_nil) (fun s H C cl fp => (se_call G_holds (hr.mono (by decide)) hg_holds tk_in (sa_cons (se_var rfl (i := 1)) (sa_cons (se_var rfl (i := 4)) (sa_cons (se_var rfl (i := 3)) (sa_nil rfl))))))))) (sab_nil rfl)) h_all))))))))⟩
theorem sc_Web_init : FnScope ["self", "plan", "rows", "waiting", "at", "here", "edit", "later", "bad"] ["self", "plan", "rows"] (defScope (inClass (top 57) 1)) := ⟨rfl, rfl, rfl, by decide +kernel, rfl, by decide +kernel, by decide +kernel⟩
theorem F_Web_init (T : Fc c w mg) : ∃ ad fd, Mk c.K (c.cls 5) ad ∧ FnOk P w c.K mg base (L2.CX P w) 8 ad fd ["self", "plan", "rows"] (PromI c 2 5 m_Web_init) ∧ Binds c.K fd ["self", "plan", "rows"] [] := by
  obtain ⟨_, hs_Web_roads⟩ := T.s_Web_roads
  have hcw : w = c.w := T.cw.symm
  obtain ⟨_, hs_Web_lost⟩ := T.s_Web_lost
  have h_len := T.g_len
  obtain ⟨_, h_MOST_LISTS⟩ := T.g_MOST_LISTS
  have h_TooLarge := T.x_TooLarge
  have hC := T.C
  obtain ⟨_, hg_all_allowed, G_all_allowed⟩ := F_all_allowed (P := P) (base := base) T
  obtain ⟨_, hg_edited, G_edited⟩ := F_edited (P := P) (base := base) T
  obtain ⟨_, _, hp_Plan_way, G_Plan_way⟩ := F_Plan_way (P := P) (base := base) T
  obtain ⟨_, _, hp_Way_words, G_Way_words⟩ := F_Way_words (P := P) (base := base) T
  obtain ⟨ad, fd, hM, F⟩ := T.f_Web_init
  exact ⟨ad, fd, hM, initR_mk (k := 7) F sc_Web_init rfl (by decide) (fun cdv A outer s H E hr => by
    have sc := sc_Web_init
    have hu := hr.units
    have hu1 := hu_of hr
    exact (sss_cons (ss_self (k := 5) (i := 1) (se_newT1 hcw hu (se_var rfl (i := 2)) (se_non rfl)) (hC.sc 5 (by decide)) hs_Web_roads)
    (sss_cons (ss_self (k := 5) (i := 0) (se_non rfl) (hC.sc 5 (by decide)) hs_Web_lost)
    (sss_cons (ss_parS (i := 3) (j := 4) (sam_own (sn_lst (sa_cons (se_var rfl (i := 2)) (sa_nil rfl))) (sam_val (se_int rfl) (sam_nil rfl))) sc.nd)
    (sss_one (ss_while 402 (st_lt (sb_var rfl (i := 4)) (SE.sb (se_len (sab_cons (sb_var rfl (i := 3)) (sab_nil rfl)) h_len))) (sss_cons (ss_set (i := 5) (se_ix (sb_var rfl (i := 3)) (sb_var rfl (i := 4))) sc.nd)
    (sss_cons (ss_augI (j := 4) ip_add sc.nd (se_int rfl))
    (sss_one (ss_for (t := (.one 6)) (si_seq (se_call G_all_allowed (hr.mono (by decide)) hg_all_allowed tk_def (sa_cons (se_var rfl (i := 1)) (sa_cons (se_var rfl (i := 5)) (sa_nil rfl))))) (sg_one (i := 6) sc.nd) (sss_cons (ss_asgT (t := (.tup [7, 8])) (se_call G_edited (hr.mono (by decide)) hg_edited tk_def (sa_cons (se_prop (k := 1) (se_prop (k := 2) (se_var rfl (i := 1)) (hC.sc 2 (by decide)) hp_Plan_way G_Plan_way (hr.mono (by decide))) (hC.sc 1 (by decide)) hp_Way_words G_Way_words (hr.mono (by decide))) (sa_cons (se_var rfl (i := 5)) (sa_cons (se_var rfl (i := 6)) (sa_nil rfl))))) (sg_tup (sgs_cons (i := 7) (sgs_cons (i := 8) sgs_nil sc.nd) sc.nd)))
    (sss_one (ss_if (st_ne hu (sb_var rfl (i := 8)) (SE.sb (SN.se (sn_lst (sa_nil rfl))))) (sss_one (ss_self (k := 5) (i := 0) (se_if (st_isN (SE.sb (se_selfG (k := 5) (i := 0) rfl (hC.sc 5 (by decide)) hs_Web_lost))) (se_tup (sa_cons (se_var rfl (i := 5)) (sa_cons (se_var rfl (i := 6)) (sa_nil rfl)))) (se_selfG (k := 5) (i := 0) rfl (hC.sc 5 (by decide)) hs_Web_lost)) (hC.sc 5 (by decide)) hs_Web_lost)) (sss_one (ss_if (st_ninT hcw hu (sb_var rfl (i := 7)) (SE.sb (se_selfG (k := 5) (i := 1) rfl (hC.sc 5 (by decide)) hs_Web_roads))) (sss_cons (ss_if (st_eq hu (SE.sb (se_lenX hcw (sab_cons (SE.sb (se_selfG (k := 5) (i := 1) rfl (hC.sc 5 (by decide)) hs_Web_roads)) (sab_nil rfl)) h_len)) (SE.sb (se_glob rfl (by rfl) h_MOST_LISTS.1 h_MOST_LISTS.2 (fun _ => .int _)))) (sss_one (ss_raise h_TooLarge.2 rfl h_TooLarge.1 tk_def)) (sss_nil rfl))
    (sss_cons (ss_putT hcw hu (se_tup (sa_cons (se_var rfl (i := 5)) (sa_cons (se_var rfl (i := 6)) (sa_nil rfl)))) (se_selfG (k := 5) (i := 1) rfl (hC.sc 5 (by decide)) hs_Web_roads) (se_var rfl (i := 7)))
    (sss_one (ss_append (i := 3) (se_var rfl (i := 7)))))) (sss_nil rfl)))))) pa_def)))) pa_def)))))), (F.bindsN fun _ _ _ _ _ _ us hl => match us, hl with | [_, _, _], _ => rfl)⟩
theorem sc_Astray_init : FnScope ["self", "edits"] ["self", "edits"] (defScope (inClass (top 61) 1)) := ⟨rfl, rfl, rfl, by decide +kernel, rfl, by decide +kernel, by decide +kernel⟩
theorem F_Astray_init (T : Fc c w mg) : ∃ ad fd, Mk c.K (c.cls 4) ad ∧ FnOk P w c.K mg base (L2.CX P w) 1 ad fd ["self", "edits"] (PromI c 1 4 m_Astray_init) ∧ Binds c.K fd ["self", "edits"] [] := by
  obtain ⟨_, hs_Astray_edits⟩ := T.s_Astray_edits
  have h_list := T.g_list
  have hC := T.C
  obtain ⟨ad, fd, hM, F⟩ := T.f_Astray_init
  exact ⟨ad, fd, hM, initOk_mk (k := 0) F sc_Astray_init rfl (by decide) (fun cdv A outer s H E hr => by
    have sc := sc_Astray_init
    have hu := hr.units
    have hu1 := hu_of hr
    exact (sss_one (ss_self (k := 4) (i := 0) (SN.se (sn_list (sab_cons (sb_var rfl (i := 1)) (sab_nil rfl)) h_list)) (hC.sc 4 (by decide)) hs_Astray_edits))), (F.bindsN fun _ _ _ _ _ _ us hl => match us, hl with | [_, _], _ => rfl)⟩
theorem sc_Web_edits_lost : FnScope ["self", "found", "here", "edit"] ["self"] (defScope (inClass (top 57) 2)) := ⟨rfl, rfl, rfl, by decide +kernel, rfl, by decide +kernel, by decide +kernel⟩
theorem F_Web_edits_lost (T : Fc c w mg) : ∃ ad, Meth c.K (c.cls 5) "edits_lost" ad ∧ Fn c P w mg base 1 ad 1 m_Web_edits_lost := by
  obtain ⟨_, hs_Web_lost⟩ := T.s_Web_lost
  obtain ⟨_, hs_Web_roads⟩ := T.s_Web_roads
  have hcw : w = c.w := T.cw.symm
  have hC := T.C
  obtain ⟨ad, fd, hmg, F⟩ := T.f_Web_edits_lost
  exact ⟨_, hmg, fn_mk (k := 0) F sc_Web_edits_lost (F.bindsN fun _ _ _ _ _ _ us hl => match us, hl with | [_], _ => rfl) (fun cdv A outer s H E hr => by
    have sc := sc_Web_edits_lost
    have hu := hr.units
    have hu1 := hu_of hr
    exact (sss_cons (ss_asgT (t := (.tup [2, 3])) (se_getR (k := 5) (i := 0) (se_var rfl (i := 0)) (hC.sc 5 (by decide)) hs_Web_lost) (sg_tup (sgs_cons (i := 2) (sgs_cons (i := 3) sgs_nil sc.nd) sc.nd)))
    (sss_cons (ss_setN (i := 1) (sn_lst (sa_cons (se_var rfl (i := 3)) (sa_nil rfl))) sc.nd)
    (sss_cons (ss_while 402 (st_notN (SE.sb (se_getT hcw hu (SE.sb (se_getR (k := 5) (i := 1) (se_var rfl (i := 0)) (hC.sc 5 (by decide)) hs_Web_roads)) (sb_var rfl (i := 2))))) (sss_cons (ss_asgT (t := (.tup [2, 3])) (se_getT hcw hu (SE.sb (se_getR (k := 5) (i := 1) (se_var rfl (i := 0)) (hC.sc 5 (by decide)) hs_Web_roads)) (sb_var rfl (i := 2))) (sg_tup (sgs_cons (i := 2) (sgs_cons (i := 3) sgs_nil sc.nd) sc.nd)))
    (sss_one (ss_append (i := 1) (se_var rfl (i := 3))))) pa_def)
    (sss_one (ss_ret (SN.se (sn_revL (sb_var rfl (i := 1))))))))))⟩
theorem sc_answer_for : FnScope ["plan", "rows", "web"] ["plan", "rows"] (defScope (top 62)) := ⟨rfl, rfl, rfl, by decide +kernel, rfl, by decide +kernel, by decide +kernel⟩
theorem F_answer_for (T : Fc c w mg) : ∃ ad, mg "answer_for" = some (.ref ad) ∧ Fn c P w mg base 10 ad 2 m_answer_for := by
  have h_Web := T.g_Web
  obtain ⟨_, hs_Web_lost⟩ := T.s_Web_lost
  have h_Sure := T.g_Sure
  obtain ⟨_, hs_Web_roads⟩ := T.s_Web_roads
  have hcw : w = c.w := T.cw.symm
  have h_list := T.g_list
  have h_Astray := T.g_Astray
  have hC := T.C
  obtain ⟨_, _, mk_Web, G_Web_init⟩ := F_Web_init (P := P) (base := base) T
  obtain ⟨_, _, mk_Sure, G_Sure_init⟩ := F_Sure_init (P := P) (base := base) T
  obtain ⟨_, _, mk_Astray, G_Astray_init⟩ := F_Astray_init (P := P) (base := base) T
  obtain ⟨_, hm_Web_edits_lost, G_Web_edits_lost⟩ := F_Web_edits_lost (P := P) (base := base) T
  obtain ⟨ad, fd, hmg, F⟩ := T.f_answer_for
  exact ⟨_, hmg, fn_mk (k := 9) F sc_answer_for (F.bindsN fun _ _ _ _ _ _ us hl => match us, hl with | [_, _], _ => rfl) (fun cdv A outer s H E hr => by
    have sc := sc_answer_for
    have hu := hr.units
    have hu1 := hu_of hr
    exact (sss_cons (ss_set (i := 2) (se_make (kc := 5) (ad := 0) mk_Web G_Web_init.1 G_Web_init.2 (hr.mono (by decide)) h_Web tk_def (sa_cons (se_var rfl (i := 0)) (sa_cons (se_var rfl (i := 1)) (sa_nil rfl)))) sc.nd)
    (sss_one (ss_ret (se_if (st_isN (SE.sb (se_getR (k := 5) (i := 0) (se_var rfl (i := 2)) (hC.sc 5 (by decide)) hs_Web_lost))) (se_make (kc := 3) (ad := 0) mk_Sure G_Sure_init.1 G_Sure_init.2 (hr.mono (by decide)) h_Sure tk_def (sa_cons (SN.se (sn_listX hcw (sab_cons (SE.sb (se_getR (k := 5) (i := 1) (se_var rfl (i := 2)) (hC.sc 5 (by decide)) hs_Web_roads)) (sab_nil rfl)) h_list)) (sa_nil rfl))) (se_make (kc := 4) (ad := 0) mk_Astray G_Astray_init.1 G_Astray_init.2 (hr.mono (by decide)) h_Astray tk_def (sa_cons (se_methR0 (k := 5) (se_var rfl (i := 2)) (hC.sc 5 (by decide)) hm_Web_edits_lost G_Web_edits_lost (hr.mono (by decide)) tk_def) (sa_nil rfl))))))))⟩
theorem sc_sure : FnScope ["plan", "steps"] ["plan", "steps"] (defScope (top 63)) := ⟨rfl, rfl, rfl, by decide +kernel, rfl, by decide +kernel, by decide +kernel⟩
theorem F_sure (T : Fc c w mg) : ∃ ad, mg "sure" = some (.ref ad) ∧ Fn c P w mg base 11 ad 2 m_sure := by
  have hC := T.C
  obtain ⟨_, hg_check_whole, G_check_whole⟩ := F_check_whole (P := P) (base := base) T
  obtain ⟨_, hg_answer_for, G_answer_for⟩ := F_answer_for (P := P) (base := base) T
  obtain ⟨_, _, hp_Steps_rows, G_Steps_rows⟩ := F_Steps_rows (P := P) (base := base) T
  obtain ⟨ad, fd, hmg, F⟩ := T.f_sure
  exact ⟨_, hmg, fn_mk (k := 10) F sc_sure (F.bindsN fun _ _ _ _ _ _ us hl => match us, hl with | [_, _], _ => rfl) (fun cdv A outer s H E hr => by
    have sc := sc_sure
    have hu := hr.units
    have hu1 := hu_of hr
    exact (sss_cons (ss_expr (se_call G_check_whole (hr.mono (by decide)) hg_check_whole tk_def (sa_cons (se_var rfl (i := 0)) (sa_cons (se_var rfl (i := 1)) (sa_nil rfl)))))
    (sss_one (ss_ret (se_call G_answer_for (hr.mono (by decide)) hg_answer_for tk_def (sa_cons (se_var rfl (i := 0)) (sa_cons (se_prop (k := 0) (se_var rfl (i := 1)) (hC.sc 0 (by decide)) hp_Steps_rows G_Steps_rows (hr.mono (by decide))) (sa_nil rfl))))))))⟩
theorem sc_soonest : FnScope ["plan", "steps", "found"] ["plan", "steps"] (defScope (top 64)) := ⟨rfl, rfl, rfl, by decide +kernel, rfl, by decide +kernel, by decide +kernel⟩
theorem F_soonest (T : Fc c w mg) : ∃ ad, mg "soonest" = some (.ref ad) ∧ Fn c P w mg base 12 ad 2 m_soonest := by
  have h_Astray := T.g_Astray
  have h_isinstance := T.g_isinstance
  obtain ⟨_, hs_Astray_edits⟩ := T.s_Astray_edits
  have h_len := T.g_len
  have hC := T.C
  obtain ⟨_, hg_sure, G_sure⟩ := F_sure (P := P) (base := base) T
  obtain ⟨ad, fd, hmg, F⟩ := T.f_soonest
  exact ⟨_, hmg, fn_mk (k := 11) F sc_soonest (F.bindsN fun _ _ _ _ _ _ us hl => match us, hl with | [_, _], _ => rfl) (fun cdv A outer s H E hr => by
    have sc := sc_soonest
    have hu := hr.units
    have hu1 := hu_of hr
    exact (sss_cons (ss_set (i := 2) (se_call G_sure (hr.mono (by decide)) hg_sure tk_def (sa_cons (se_var rfl (i := 0)) (sa_cons (se_var rfl (i := 1)) (sa_nil rfl)))) sc.nd)
    (sss_one (ss_ret (se_if (st_val (se_iso hC (sab_cons (sb_var rfl (i := 2)) (sab_cons (SE.sb (se_glob (v := .ref (c.cls 4)) rfl (by rfl) h_Astray rfl (fun _ => .cls _))) (sab_nil rfl))) h_isinstance)) (se_len (sab_cons (SE.sb (se_attr (k := 4) (i := 0) (se_var rfl (i := 2)) (hC.sc 4 (by decide)) hs_Astray_edits)) (sab_nil rfl)) h_len) (se_non rfl))))))⟩
theorem sc_Astray_shows : FnScope ["self", "plan", "steps", "rows", "at", "edit", "bad"] ["self", "plan", "steps"] (defScope (inClass (top 61) 3)) := ⟨rfl, rfl, rfl, by decide +kernel, rfl, by decide +kernel, by decide +kernel⟩
theorem F_Astray_shows (T : Fc c w mg) : ∃ ad, Meth c.K (c.cls 4) "shows" ad ∧ Fn c P w mg base 7 ad 3 m_Astray_shows := by
  obtain ⟨_, hs_Astray_edits⟩ := T.s_Astray_edits
  have h_enumerate := T.g_enumerate
  have h_len := T.g_len
  have hC := T.C
  obtain ⟨_, hg_check_whole, G_check_whole⟩ := F_check_whole (P := P) (base := base) T
  obtain ⟨_, _, hp_Steps_rows, G_Steps_rows⟩ := F_Steps_rows (P := P) (base := base) T
  obtain ⟨_, hg_is_allowed, G_is_allowed⟩ := F_is_allowed (P := P) (base := base) T
  obtain ⟨_, hg_edited, G_edited⟩ := F_edited (P := P) (base := base) T
  obtain ⟨_, _, hp_Plan_way, G_Plan_way⟩ := F_Plan_way (P := P) (base := base) T
  obtain ⟨_, _, hp_Way_words, G_Way_words⟩ := F_Way_words (P := P) (base := base) T
  obtain ⟨ad, fd, hmg, F⟩ := T.f_Astray_shows
  exact ⟨_, hmg, fn_mk (k := 6) F sc_Astray_shows (F.bindsN fun _ _ _ _ _ _ us hl => match us, hl with | [_, _, _], _ => rfl) (fun cdv A outer s H E hr => by
    have sc := sc_Astray_shows
    have hu := hr.units
    have hu1 := hu_of hr
    exact (sss_cons (ss_expr (se_call G_check_whole (hr.mono (by decide)) hg_check_whole tk_def (sa_cons (se_var rfl (i := 1)) (sa_cons (se_var rfl (i := 2)) (sa_nil rfl)))))
    (sss_cons (ss_set (i := 3) (se_prop (k := 0) (se_var rfl (i := 2)) (hC.sc 0 (by decide)) hp_Steps_rows G_Steps_rows (hr.mono (by decide))) sc.nd)
    (sss_cons (ss_for (t := (.tup [4, 5])) (si_enum (se_attr (k := 4) (i := 0) (se_var rfl (i := 0)) (hC.sc 4 (by decide)) hs_Astray_edits) h_enumerate) (sg_tup (sgs_cons (i := 4) (sgs_cons (i := 5) sgs_nil sc.nd) sc.nd)) (sss_cons (ss_if (st_not (st_val (se_call G_is_allowed (hr.mono (by decide)) hg_is_allowed tk_def (sa_cons (se_var rfl (i := 1)) (sa_cons (se_var rfl (i := 3)) (sa_cons (se_var rfl (i := 5)) (sa_nil rfl))))))) (sss_one (ss_ret (se_bl rfl))) (sss_nil rfl))
    (sss_cons (ss_asgT (t := (.tup [3, 6])) (se_call G_edited (hr.mono (by decide)) hg_edited tk_def (sa_cons (se_prop (k := 1) (se_prop (k := 2) (se_var rfl (i := 1)) (hC.sc 2 (by decide)) hp_Plan_way G_Plan_way (hr.mono (by decide))) (hC.sc 1 (by decide)) hp_Way_words G_Way_words (hr.mono (by decide))) (sa_cons (se_var rfl (i := 3)) (sa_cons (se_var rfl (i := 5)) (sa_nil rfl))))) (sg_tup (sgs_cons (i := 3) (sgs_cons (i := 6) sgs_nil sc.nd) sc.nd)))
    (sss_one (ss_if (st_ne hu (sb_var rfl (i := 6)) (SE.sb (SN.se (sn_lst (sa_nil rfl))))) (sss_one (ss_ret (se_eq hu (sb_var rfl (i := 4)) (SE.sb (se_sub (SE.sb (se_len (sab_cons (SE.sb (se_attr (k := 4) (i := 0) (se_var rfl (i := 0)) (hC.sc 4 (by decide)) hs_Astray_edits)) (sab_nil rfl)) h_len)) (SE.sb (se_int rfl))))))) (sss_nil rfl))))) pa_def)
    (sss_one (ss_ret (se_bl rfl)))))))⟩
theorem sc__law_sure_right : FnScope ["_law_steps", "_law_lists", "_law_tailed", "_law_late", "_law_about", "_law_raw"] [] (defScope (top 87)) := ⟨rfl, rfl, rfl, by decide +kernel, rfl, by decide +kernel, by decide +kernel⟩
theorem F__law_sure_right (T : Fc c w mg) : ∃ ad, mg "_law_sure_right" = some (.ref ad) ∧ Fn c P w mg base 13 ad 0 m__law_sure_right := by
  have h_Steps := T.g_Steps
  have h_Plan := T.g_Plan
  have h_Way := T.g_Way
  have h_Sure := T.g_Sure
  have h_Astray := T.g_Astray
  have h_isinstance := T.g_isinstance
  have hC := T.C
  obtain ⟨_, _, hcm_Steps_of, G_Steps_of⟩ := F_Steps_of (P := P) (base := base) T
  obtain ⟨_, _, mk_Plan, G_Plan_init⟩ := F_Plan_init (P := P) (base := base) T
  obtain ⟨_, _, mk_Way, G_Way_init⟩ := F_Way_init (P := P) (base := base) T
  obtain ⟨_, _, hst_Way_every, G_Way_every⟩ := F_Way_every (P := P) (base := base) T
  obtain ⟨_, hg_allowed, G_allowed⟩ := F_allowed (P := P) (base := base) T
  obtain ⟨_, _, hp_Steps_rows, G_Steps_rows⟩ := F_Steps_rows (P := P) (base := base) T
  obtain ⟨_, _, mk_Sure, G_Sure_init⟩ := F_Sure_init (P := P) (base := base) T
  obtain ⟨_, hm_Sure_shows, G_Sure_shows⟩ := F_Sure_shows (P := P) (base := base) T
  obtain ⟨_, hg_soonest, G_soonest⟩ := F_soonest (P := P) (base := base) T
  obtain ⟨_, _, mk_Astray, G_Astray_init⟩ := F_Astray_init (P := P) (base := base) T
  obtain ⟨_, hm_Astray_shows, G_Astray_shows⟩ := F_Astray_shows (P := P) (base := base) T
  obtain ⟨_, hg_sure, G_sure⟩ := F_sure (P := P) (base := base) T
  obtain ⟨ad, fd, hmg, F⟩ := T.f__law_sure_right
  exact ⟨_, hmg, fn_mk (k := 12) F sc__law_sure_right (F.bindsN fun _ _ _ _ _ _ us hl => match us, hl with | [], _ => rfl) (fun cdv A outer s H E hr => by
    have sc := sc__law_sure_right
    have hu := hr.units
    have hu1 := hu_of hr
    exact (sss_cons (ss_set (i := 0) (se_cmetS (kc := 0) h_Steps hcm_Steps_of G_Steps_of (hr.mono (by decide)) tk_def (sa_cons (se_tup (sa_cons (se_non rfl) (sa_cons (se_tup (sa_nil rfl)) (sa_nil rfl)))) (sa_cons (se_tup (sa_cons (se_non rfl) (sa_cons (se_tup (sa_cons (se_tup (sa_cons (se_str rfl) (sa_cons (se_int rfl) (sa_nil rfl)))) (sa_nil rfl))) (sa_nil rfl)))) (sa_nil rfl)))) sc.nd)
    (sss_cons (ss_parS3 (i := 3) (j := 4) (l := 5) (sam_val (se_makeD (kc := 2) mk_Plan G_Plan_init.1 (dfl_Plan_init G_Plan_init.2).choose_spec.2 (dfl_Plan_init G_Plan_init.2).choose_spec.1 (fun _ => (.cons (.int _) .nil)) (hr.mono (by decide)) h_Plan tk_def (sa_cons (se_makeK (kc := 1) mk_Way G_Way_init.1 (kb_Way_init_0 G_Way_init.2) kv_Way_init_0 (hr.mono (by decide)) h_Way tk_def (sk_nil rfl)) (sa_cons (se_tup (sa_cons (se_str rfl) (sa_nil rfl))) (sa_nil rfl)))) (sam_val (se_makeD (kc := 2) mk_Plan G_Plan_init.1 (dfl_Plan_init G_Plan_init.2).choose_spec.2 (dfl_Plan_init G_Plan_init.2).choose_spec.1 (fun _ => (.cons (.int _) .nil)) (hr.mono (by decide)) h_Plan tk_def (sa_cons (se_static hst_Way_every G_Way_every (hr.mono (by decide)) h_Way tk_def (sa_cons (se_str rfl) (sa_nil rfl))) (sa_cons (se_tup (sa_cons (se_str rfl) (sa_nil rfl))) (sa_nil rfl)))) (sam_val (se_makeD (kc := 2) mk_Plan G_Plan_init.1 (dfl_Plan_init G_Plan_init.2).choose_spec.2 (dfl_Plan_init G_Plan_init.2).choose_spec.1 (fun _ => (.cons (.int _) .nil)) (hr.mono (by decide)) h_Plan tk_def (sa_cons (se_makeK (kc := 1) mk_Way G_Way_init.1 (kb_Way_init_0 G_Way_init.2) kv_Way_init_0 (hr.mono (by decide)) h_Way tk_def (sk_nil rfl)) (sa_cons (se_tup (sa_cons (se_str rfl) (sa_nil rfl))) (sa_nil rfl)))) (sam_nil rfl)))) sc.nd)
    (sss_cons (ss_if (SW.st (sw_or (st_ne hu (SE.sb (se_call G_allowed (hr.mono (by decide)) hg_allowed tk_def (sa_cons (se_var rfl (i := 3)) (sa_cons (se_var rfl (i := 0)) (sa_nil rfl))))) (SE.sb (SN.se (sn_lst (sa_cons (se_tup (sa_cons (se_str rfl) (sa_cons (se_int rfl) (sa_nil rfl)))) (sa_nil rfl)))))) (sw_or1 (st_ne hu (SE.sb (se_call G_allowed (hr.mono (by decide)) hg_allowed tk_def (sa_cons (se_makeD (kc := 2) mk_Plan G_Plan_init.1 (dfl_Plan_init G_Plan_init.2).choose_spec.2 (dfl_Plan_init G_Plan_init.2).choose_spec.1 (fun _ => (.cons (.int _) .nil)) (hr.mono (by decide)) h_Plan tk_def (sa_cons (se_makeK (kc := 1) mk_Way G_Way_init.1 (kb_Way_init_0 G_Way_init.2) kv_Way_init_0 (hr.mono (by decide)) h_Way tk_def (sk_nil rfl)) (sa_cons (se_tup (sa_cons (se_str rfl) (sa_nil rfl))) (sa_nil rfl)))) (sa_cons (se_var rfl (i := 0)) (sa_nil rfl))))) (SE.sb (SN.se (sn_lst (sa_cons (se_tup (sa_cons (se_str rfl) (sa_cons (se_int rfl) (sa_nil rfl)))) (sa_nil rfl))))))))) (sss_one (ss_ret (se_bl rfl))) (sss_nil rfl))
    (sss_cons (ss_if (st_ne hu (SE.sb (se_call G_allowed (hr.mono (by decide)) hg_allowed tk_def (sa_cons (se_makePK (kc := 2) (np := 2) mk_Plan G_Plan_init.1 (kbp_Plan_init G_Plan_init.2) (fun Ψ v vs zs es ds r1 r2 _ _ => ⟨_, rfl, r1.app r2⟩) (hr.mono (by decide)) h_Plan tk_def (sa_cons (se_makeK (kc := 1) mk_Way G_Way_init.1 (kb_Way_init_0 G_Way_init.2) kv_Way_init_0 (hr.mono (by decide)) h_Way tk_def (sk_nil rfl)) (sa_cons (se_tup (sa_cons (se_str rfl) (sa_cons (se_str rfl) (sa_nil rfl)))) (sa_nil rfl))) (sk_cons (se_int rfl) (sk_nil rfl))) (sa_cons (se_var rfl (i := 0)) (sa_nil rfl))))) (SE.sb (SN.se (sn_lst (sa_cons (se_tup (sa_cons (se_str rfl) (sa_cons (se_int rfl) (sa_nil rfl)))) (sa_cons (se_tup (sa_cons (se_str rfl) (sa_cons (se_int rfl) (sa_nil rfl)))) (sa_nil rfl))))))) (sss_one (ss_ret (se_bl rfl))) (sss_nil rfl))
    (sss_cons (ss_setN (i := 1) (sn_lst (sa_cons (se_prop (k := 0) (se_var rfl (i := 0)) (hC.sc 0 (by decide)) hp_Steps_rows G_Steps_rows (hr.mono (by decide))) (sa_cons (se_add (SE.sb (se_prop (k := 0) (se_var rfl (i := 0)) (hC.sc 0 (by decide)) hp_Steps_rows G_Steps_rows (hr.mono (by decide)))) (SE.sb (se_tup (sa_cons (se_tup (sa_cons (se_non rfl) (sa_cons (se_tup (sa_nil rfl)) (sa_nil rfl)))) (sa_nil rfl))))) (sa_cons (se_add (SE.sb (se_prop (k := 0) (se_var rfl (i := 0)) (hC.sc 0 (by decide)) hp_Steps_rows G_Steps_rows (hr.mono (by decide)))) (SE.sb (se_mul (SE.sb (se_tup (sa_cons (se_tup (sa_cons (se_non rfl) (sa_cons (se_tup (sa_nil rfl)) (sa_nil rfl)))) (sa_nil rfl)))) (SE.sb (se_int rfl))))) (sa_nil rfl))))) sc.nd)
    (sss_cons (ss_frz [1] (ss_if (SW.st (sw_or (st_not (st_val (se_meth (k := 3) (se_make (kc := 3) (ad := 0) mk_Sure G_Sure_init.1 G_Sure_init.2 (hr.mono (by decide)) h_Sure tk_def (sa_cons (se_var rfl (i := 1)) (sa_nil rfl))) (sa_cons (se_var rfl (i := 3)) (sa_cons (se_var rfl (i := 0)) (sa_nil rfl))) (hC.sc 3 (by decide)) hm_Sure_shows G_Sure_shows (hr.mono (by decide)) tk_def))) (sw_or (st_val (se_meth (k := 3) (se_make (kc := 3) (ad := 0) mk_Sure G_Sure_init.1 G_Sure_init.2 (hr.mono (by decide)) h_Sure tk_def (sa_cons (SN.se (sn_slice (sb_var rfl (i := 1)) (so_none rfl) (so_some (SE.sb (se_int rfl))))) (sa_nil rfl))) (sa_cons (se_var rfl (i := 3)) (sa_cons (se_var rfl (i := 0)) (sa_nil rfl))) (hC.sc 3 (by decide)) hm_Sure_shows G_Sure_shows (hr.mono (by decide)) tk_def)) (sw_or1 (st_notN (SE.sb (se_call G_soonest (hr.mono (by decide)) hg_soonest tk_def (sa_cons (se_var rfl (i := 3)) (sa_cons (se_var rfl (i := 0)) (sa_nil rfl)))))))))) (sss_one (ss_ret (se_bl rfl))) (sss_nil rfl)))
    (sss_cons (ss_if (st_ne hu (SE.sb (SN.se (sn_lst (sa_cons (se_call G_soonest (hr.mono (by decide)) hg_soonest tk_def (sa_cons (se_var rfl (i := 4)) (sa_cons (se_var rfl (i := 0)) (sa_nil rfl)))) (sa_cons (se_call G_soonest (hr.mono (by decide)) hg_soonest tk_def (sa_cons (se_var rfl (i := 5)) (sa_cons (se_var rfl (i := 0)) (sa_nil rfl)))) (sa_cons (se_call G_soonest (hr.mono (by decide)) hg_soonest tk_def (sa_cons (se_makeD (kc := 2) mk_Plan G_Plan_init.1 (dfl_Plan_init G_Plan_init.2).choose_spec.2 (dfl_Plan_init G_Plan_init.2).choose_spec.1 (fun _ => (.cons (.int _) .nil)) (hr.mono (by decide)) h_Plan tk_def (sa_cons (se_static hst_Way_every G_Way_every (hr.mono (by decide)) h_Way tk_def (sa_cons (se_str rfl) (sa_nil rfl))) (sa_cons (se_tup (sa_cons (se_str rfl) (sa_nil rfl))) (sa_nil rfl)))) (sa_cons (se_var rfl (i := 0)) (sa_nil rfl)))) (sa_nil rfl))))))) (SE.sb (SN.se (sn_lst (sa_cons (se_int rfl) (sa_cons (se_int rfl) (sa_cons (se_non rfl) (sa_nil rfl)))))))) (sss_one (ss_ret (se_bl rfl))) (sss_nil rfl))
    (sss_cons (ss_if (SW.st (sw_or (st_not (st_val (se_meth (k := 4) (se_make (kc := 4) (ad := 0) mk_Astray G_Astray_init.1 G_Astray_init.2 (hr.mono (by decide)) h_Astray tk_def (sa_cons (SN.se (sn_lst (sa_cons (se_tup (sa_cons (se_str rfl) (sa_cons (se_int rfl) (sa_cons (se_int rfl) (sa_nil rfl))))) (sa_nil rfl)))) (sa_nil rfl))) (sa_cons (se_var rfl (i := 4)) (sa_cons (se_var rfl (i := 0)) (sa_nil rfl))) (hC.sc 4 (by decide)) hm_Astray_shows G_Astray_shows (hr.mono (by decide)) tk_def))) (sw_or1 (st_not (st_val (se_meth (k := 4) (se_make (kc := 4) (ad := 0) mk_Astray G_Astray_init.1 G_Astray_init.2 (hr.mono (by decide)) h_Astray tk_def (sa_cons (SN.se (sn_lst (sa_cons (se_tup (sa_cons (se_str rfl) (sa_cons (se_int rfl) (sa_nil rfl)))) (sa_cons (se_tup (sa_cons (se_str rfl) (sa_cons (se_int rfl) (sa_nil rfl)))) (sa_nil rfl))))) (sa_nil rfl))) (sa_cons (se_var rfl (i := 5)) (sa_cons (se_var rfl (i := 0)) (sa_nil rfl))) (hC.sc 4 (by decide)) hm_Astray_shows G_Astray_shows (hr.mono (by decide)) tk_def)))))) (sss_one (ss_ret (se_bl rfl))) (sss_nil rfl))
    (sss_cons (ss_if (SW.st (sw_or (st_val (se_meth (k := 4) (se_make (kc := 4) (ad := 0) mk_Astray G_Astray_init.1 G_Astray_init.2 (hr.mono (by decide)) h_Astray tk_def (sa_cons (SN.se (sn_lst (sa_cons (se_tup (sa_cons (se_str rfl) (sa_cons (se_int rfl) (sa_nil rfl)))) (sa_nil rfl)))) (sa_nil rfl))) (sa_cons (se_var rfl (i := 5)) (sa_cons (se_var rfl (i := 0)) (sa_nil rfl))) (hC.sc 4 (by decide)) hm_Astray_shows G_Astray_shows (hr.mono (by decide)) tk_def)) (sw_or (st_val (se_meth (k := 4) (se_make (kc := 4) (ad := 0) mk_Astray G_Astray_init.1 G_Astray_init.2 (hr.mono (by decide)) h_Astray tk_def (sa_cons (SN.se (sn_lst (sa_cons (se_tup (sa_cons (se_str rfl) (sa_cons (se_int rfl) (sa_nil rfl)))) (sa_cons (se_tup (sa_cons (se_str rfl) (sa_cons (se_int rfl) (sa_nil rfl)))) (sa_nil rfl))))) (sa_nil rfl))) (sa_cons (se_var rfl (i := 5)) (sa_cons (se_var rfl (i := 0)) (sa_nil rfl))) (hC.sc 4 (by decide)) hm_Astray_shows G_Astray_shows (hr.mono (by decide)) tk_def)) (sw_or1 (st_val (se_meth (k := 4) (se_make (kc := 4) (ad := 0) mk_Astray G_Astray_init.1 G_Astray_init.2 (hr.mono (by decide)) h_Astray tk_def (sa_cons (SN.se (sn_lst (sa_cons (se_tup (sa_cons (se_str rfl) (sa_cons (se_int rfl) (sa_nil rfl)))) (sa_nil rfl)))) (sa_nil rfl))) (sa_cons (se_var rfl (i := 5)) (sa_cons (se_var rfl (i := 0)) (sa_nil rfl))) (hC.sc 4 (by decide)) hm_Astray_shows G_Astray_shows (hr.mono (by decide)) tk_def)))))) (sss_one (ss_ret (se_bl rfl))) (sss_nil rfl))
    (sss_cons (ss_set (i := 2) (se_cmetS (kc := 0) h_Steps hcm_Steps_of G_Steps_of (hr.mono (by decide)) tk_def (sa_cons (se_tup (sa_cons (se_non rfl) (sa_cons (se_tup (sa_cons (se_tup (sa_cons (se_str rfl) (sa_cons (se_int rfl) (sa_nil rfl)))) (sa_nil rfl))) (sa_nil rfl)))) (sa_cons (se_tup (sa_cons (se_non rfl) (sa_cons (se_tup (sa_nil rfl)) (sa_nil rfl)))) (sa_nil rfl)))) sc.nd)
    (sss_cons (ss_if (SW.st (sw_or (st_ne hu (SE.sb (se_call G_soonest (hr.mono (by decide)) hg_soonest tk_def (sa_cons (se_makeD (kc := 2) mk_Plan G_Plan_init.1 (dfl_Plan_init G_Plan_init.2).choose_spec.2 (dfl_Plan_init G_Plan_init.2).choose_spec.1 (fun _ => (.cons (.int _) .nil)) (hr.mono (by decide)) h_Plan tk_def (sa_cons (se_makeK (kc := 1) mk_Way G_Way_init.1 (kb_Way_init_0 G_Way_init.2) kv_Way_init_0 (hr.mono (by decide)) h_Way tk_def (sk_nil rfl)) (sa_cons (se_tup (sa_cons (se_str rfl) (sa_nil rfl))) (sa_nil rfl)))) (sa_cons (se_var rfl (i := 2)) (sa_nil rfl))))) (SE.sb (se_int rfl))) (sw_or1 (st_notN (SE.sb (se_call G_soonest (hr.mono (by decide)) hg_soonest tk_def (sa_cons (se_makeD (kc := 2) mk_Plan G_Plan_init.1 (dfl_Plan_init G_Plan_init.2).choose_spec.2 (dfl_Plan_init G_Plan_init.2).choose_spec.1 (fun _ => (.cons (.int _) .nil)) (hr.mono (by decide)) h_Plan tk_def (sa_cons (se_makeK (kc := 1) mk_Way G_Way_init.1 (kb_Way_init_1 G_Way_init.2) kv_Way_init_1 (hr.mono (by decide)) h_Way tk_def (sk_cons (se_str rfl) (sk_nil rfl))) (sa_cons (se_tup (sa_cons (se_str rfl) (sa_nil rfl))) (sa_nil rfl)))) (sa_cons (se_var rfl (i := 2)) (sa_nil rfl))))))))) (sss_one (ss_ret (se_bl rfl))) (sss_nil rfl))
    (sss_one (ss_ret (se_and (se_eq hu (SE.sb (se_call G_soonest (hr.mono (by decide)) hg_soonest tk_def (sa_cons (se_makeD (kc := 2) mk_Plan G_Plan_init.1 (dfl_Plan_init G_Plan_init.2).choose_spec.2 (dfl_Plan_init G_Plan_init.2).choose_spec.1 (fun _ => (.cons (.int _) .nil)) (hr.mono (by decide)) h_Plan tk_def (sa_cons (se_makeK (kc := 1) mk_Way G_Way_init.1 (kb_Way_init_1 G_Way_init.2) kv_Way_init_1 (hr.mono (by decide)) h_Way tk_def (sk_cons (se_str rfl) (sk_nil rfl))) (sa_cons (se_tup (sa_cons (se_str rfl) (sa_cons (se_str rfl) (sa_nil rfl)))) (sa_nil rfl)))) (sa_cons (se_var rfl (i := 2)) (sa_nil rfl))))) (SE.sb (se_int rfl))) (se_and1 (se_iso hC (sab_cons (SE.sb (se_call G_sure (hr.mono (by decide)) hg_sure tk_def (sa_cons (se_makeD (kc := 2) mk_Plan G_Plan_init.1 (dfl_Plan_init G_Plan_init.2).choose_spec.2 (dfl_Plan_init G_Plan_init.2).choose_spec.1 (fun _ => (.cons (.int _) .nil)) (hr.mono (by decide)) h_Plan tk_def (sa_cons (se_makeK (kc := 1) mk_Way G_Way_init.1 (kb_Way_init_0 G_Way_init.2) kv_Way_init_0 (hr.mono (by decide)) h_Way tk_def (sk_nil rfl)) (sa_cons (se_tup (sa_nil rfl)) (sa_nil rfl)))) (sa_cons (se_var rfl (i := 2)) (sa_nil rfl))))) (sab_cons (SE.sb (se_glob (v := .ref (c.cls 3)) rfl (by rfl) h_Sure rfl (fun _ => .cls _))) (sab_nil rfl))) h_isinstance)))))))))))))))))⟩
theorem sc_plain_spots : FnScope ["rows", "spot"] ["rows"] (defScope (top 67)) := ⟨rfl, rfl, rfl, by decide +kernel, rfl, by decide +kernel, by decide +kernel⟩
theorem F_plain_spots (T : Fc c w mg) : ∃ ad, mg "plain_spots" = some (.ref ad) ∧ Fn c P w mg base 2 ad 1 m_plain_spots := by
  have hC := T.C
  obtain ⟨_, hg_all_spots, G_all_spots⟩ := F_all_spots (P := P) (base := base) T
  obtain ⟨ad, fd, hmg, F⟩ := T.f_plain_spots
  exact ⟨_, hmg, fn_mk (k := 1) F sc_plain_spots (F.bindsN fun _ _ _ _ _ _ us hl => match us, hl with | [_], _ => rfl) (fun cdv A outer s H E hr => by
    have sc := sc_plain_spots
    have hu := hr.units
    have hu1 := hu_of hr
    exact (sss_one (ss_ret (SN.se (sn_lc (own := [("spot", 1)]) (t := (.one 1)) (SI.sic (si_seq (se_call G_all_spots (hr.mono (by decide)) hg_all_spots tk_def (sa_cons (se_var rfl (i := 0)) (sa_nil rfl))))) sc.nd (blkOk_by (by kernel_rfl)) (by decide) (fun s H C cl fp => (sg_one (i := 1) sc.nd)) (fun s H C cl fp => (sts_one (st_ne hu (SE.sb (se_ix (SE.sb (se_ix (SE.sb (se_ix (SE.sb (se_ix (sb_var rfl (i := 0)) (SE.sb (se_ix (sb_var rfl (i := 1)) (SE.sb (se_int rfl)))))) (SE.sb (se_int rfl)))) (SE.sb (se_ix (sb_var rfl (i := 1)) (SE.sb (se_int rfl)))))) (SE.sb (se_int rfl)))) (SE.sb (se_str rfl))))) (fun s H C cl fp => (se_var rfl (i := 1))))))))⟩
theorem sc_check_few : FnScope ["plan", "steps"] ["plan", "steps"] (defScope (top 74)) := ⟨rfl, rfl, rfl, by decide +kernel, rfl, by decide +kernel, by decide +kernel⟩
theorem F_check_few (T : Fc c w mg) : ∃ ad, mg "check_few" = some (.ref ad) ∧ Fn c P w mg base 7 ad 2 m_check_few := by
  have h_len := T.g_len
  obtain ⟨_, h_MOST_SPOTS⟩ := T.g_MOST_SPOTS
  have h_TooLarge := T.x_TooLarge
  have hC := T.C
  obtain ⟨_, hg_check_whole, G_check_whole⟩ := F_check_whole (P := P) (base := base) T
  obtain ⟨_, hg_plain_spots, G_plain_spots⟩ := F_plain_spots (P := P) (base := base) T
  obtain ⟨_, _, hp_Steps_rows, G_Steps_rows⟩ := F_Steps_rows (P := P) (base := base) T
  obtain ⟨ad, fd, hmg, F⟩ := T.f_check_few
  exact ⟨_, hmg, fn_mk (k := 6) F sc_check_few (F.bindsN fun _ _ _ _ _ _ us hl => match us, hl with | [_, _], _ => rfl) (fun cdv A outer s H E hr => by
    have sc := sc_check_few
    have hu := hr.units
    have hu1 := hu_of hr
    exact (sss_cons (ss_expr (se_call G_check_whole (hr.mono (by decide)) hg_check_whole tk_def (sa_cons (se_var rfl (i := 0)) (sa_cons (se_var rfl (i := 1)) (sa_nil rfl)))))
    (sss_one (ss_if (st_gt (SE.sb (se_len (sab_cons (SE.sb (se_call G_plain_spots (hr.mono (by decide)) hg_plain_spots tk_def (sa_cons (se_prop (k := 0) (se_var rfl (i := 1)) (hC.sc 0 (by decide)) hp_Steps_rows G_Steps_rows (hr.mono (by decide))) (sa_nil rfl)))) (sab_nil rfl)) h_len)) (SE.sb (se_glob rfl (by rfl) h_MOST_SPOTS.1 h_MOST_SPOTS.2 (fun _ => .int _)))) (sss_one (ss_raise h_TooLarge.2 rfl h_TooLarge.1 tk_def)) (sss_nil rfl)))))⟩
theorem sc_in_order : FnScope ["choices", "found", "choice", "place"] ["choices"] (defScope (top 71)) := ⟨rfl, rfl, rfl, by decide +kernel, rfl, by decide +kernel, by decide +kernel⟩
theorem F_in_order (T : Fc c w mg) : ∃ ad, mg "in_order" = some (.ref ad) ∧ Fn c P w mg base 1 ad 1 m_in_order := by
  have h_len := T.g_len
  have hC := T.C
  obtain ⟨ad, fd, hmg, F⟩ := T.f_in_order
  exact ⟨_, hmg, fn_mk (k := 0) F sc_in_order (F.bindsN fun _ _ _ _ _ _ us hl => match us, hl with | [_], _ => rfl) (fun cdv A outer s H E hr => by
    have sc := sc_in_order
    have hu := hr.units
    have hu1 := hu_of hr
    exact (sss_cons (ss_setN (i := 1) (sn_lst (sa_nil rfl)) sc.nd)
    (sss_cons (ss_for (t := (.one 2)) (si_seq (se_var rfl (i := 0))) (sg_one (i := 2) sc.nd) (sss_cons (ss_set (i := 3) (se_len (sab_cons (sb_var rfl (i := 1)) (sab_nil rfl)) h_len) sc.nd)
    (sss_cons (ss_while 70 (SW.st (sw_and (st_gt (sb_var rfl (i := 3)) (SE.sb (se_int rfl))) (sw_and1 (st_ltN hu (SE.sb (se_tup (sa_cons (se_len (sab_cons (sb_var rfl (i := 2)) (sab_nil rfl)) h_len) (sa_cons (se_var rfl (i := 2)) (sa_nil rfl))))) (SE.sb (se_tup (sa_cons (se_len (sab_cons (SE.sb (se_ix (sb_var rfl (i := 1)) (SE.sb (se_sub (sb_var rfl (i := 3)) (SE.sb (se_int rfl)))))) (sab_nil rfl)) h_len) (sa_cons (se_ix (sb_var rfl (i := 1)) (SE.sb (se_sub (sb_var rfl (i := 3)) (SE.sb (se_int rfl))))) (sa_nil rfl))))))))) (sss_one (ss_augI (j := 3) ip_sub sc.nd (se_int rfl))) pa_def)
    (sss_one (ss_insert (i := 1) (sa_cons (se_var rfl (i := 3)) (sa_cons (se_var rfl (i := 2)) (sa_nil rfl))))))) pa_def)
    (sss_one (ss_frz [1] (ss_ret (se_var rfl (i := 1))))))))⟩
theorem sc_labels_for : FnScope ["rows", "choice", "found", "spot", "there", "free", "one"] ["rows", "choice"] (defScope (top 68)) := ⟨rfl, rfl, rfl, by decide +kernel, rfl, by decide +kernel, by decide +kernel⟩
theorem F_labels_for (T : Fc c w mg) : ∃ ad, mg "labels_for" = some (.ref ad) ∧ Fn c P w mg base 4 ad 2 m_labels_for := by
  obtain ⟨_, h_LETTERS⟩ := T.g_LETTERS
  have hC := T.C
  obtain ⟨_, hg_meant_at, G_meant_at⟩ := F_meant_at (P := P) (base := base) T
  obtain ⟨_, hg_first_with, G_first_with⟩ := F_first_with (P := P) (base := base) T
  obtain ⟨ad, fd, hmg, F⟩ := T.f_labels_for
  exact ⟨_, hmg, fn_mk (k := 3) F sc_labels_for (F.bindsN fun _ _ _ _ _ _ us hl => match us, hl with | [_, _], _ => rfl) (fun cdv A outer s H E hr => by
    have sc := sc_labels_for
    have hu := hr.units
    have hu1 := hu_of hr
    exact (sss_cons (ss_setD0 (i := 2) rfl sc.nd)
    (sss_cons (ss_for (t := (.one 3)) (si_seq (se_var rfl (i := 1))) (sg_one (i := 3) sc.nd) (sss_cons (ss_set (i := 4) (se_call G_meant_at (hr.mono (by decide)) hg_meant_at tk_def (sa_cons (se_var rfl (i := 0)) (sa_cons (se_var rfl (i := 3)) (sa_nil rfl)))) sc.nd)
    (sss_one (ss_if (SW.st (sw_and (st_isN (SE.sb (se_ix (SE.sb (se_ix (sb_var rfl (i := 0)) (sb_var rfl (i := 4)))) (SE.sb (se_int rfl))))) (sw_and1 (st_ninK (i := 2) (se_var rfl (i := 4)))))) (sss_cons (ss_setLc (i := 5) (own := [("one", 6)]) (t := (.one 6)) (SI.sic (si_seq (se_glob (v := .ref _) rfl (by rfl) h_LETTERS.1 rfl (h_LETTERS.2.rep (by decide))))) sc.nd (blkOk_by (by kernel_rfl)) (by decide) (fun s H C cl fp => (sg_one (i := 6) sc.nd)) (fun s H C cl fp => (sts_one (SW.st (sw_and (st_isN (SE.sb (se_call G_first_with (hr.mono (by decide)) hg_first_with tk_in (sa_cons (se_var rfl (i := 0)) (sa_cons (se_var rfl (i := 6)) (sa_nil rfl)))))) (sw_and1 (st_ninV (i := 2) (se_var rfl (i := 6)))))))) (fun s H C cl fp => (se_var rfl (i := 6))))
    (sss_cons (ss_if (st_eq hu (sb_var rfl (i := 5)) (SE.sb (SN.se (sn_lst (sa_nil rfl))))) (sss_one (ss_ret (se_non rfl))) (sss_nil rfl))
    (sss_one (ss_dset (i := 2) (se_ix (sb_var rfl (i := 5)) (SE.sb (se_int rfl))) (se_var rfl (i := 4)) hu1)))) (sss_one (ss_if (SW.st (sw_and (st_notN (SE.sb (se_ix (SE.sb (se_ix (sb_var rfl (i := 0)) (sb_var rfl (i := 4)))) (SE.sb (se_int rfl))))) (sw_and1 (st_ne hu (SE.sb (se_call G_first_with (hr.mono (by decide)) hg_first_with tk_def (sa_cons (se_var rfl (i := 0)) (sa_cons (se_ix (SE.sb (se_ix (sb_var rfl (i := 0)) (sb_var rfl (i := 4)))) (SE.sb (se_int rfl))) (sa_nil rfl))))) (sb_var rfl (i := 4)))))) (sss_one (ss_ret (se_non rfl))) (sss_nil rfl)))))) pa_def)
    (sss_one (ss_frzD 2 (ss_ret (se_var rfl (i := 2))))))))⟩
theorem sc_after_choice : FnScope ["rows", "choice", "labels", "names", "found", "at", "row", "pointers", "place"] ["rows", "choice", "labels"] (defScope (top 69)) := ⟨rfl, rfl, rfl, by decide +kernel, rfl, by decide +kernel, by decide +kernel⟩
theorem F_after_choice (T : Fc c w mg) : ∃ ad, mg "after_choice" = some (.ref ad) ∧ Fn c P w mg base 4 ad 3 m_after_choice := by
  have h_enumerate := T.g_enumerate
  have h_list := T.g_list
  have h_len := T.g_len
  have h_range := T.g_range
  have h_tuple := T.g_tuple
  have hC := T.C
  obtain ⟨_, hg_meant_at, G_meant_at⟩ := F_meant_at (P := P) (base := base) T
  obtain ⟨ad, fd, hmg, F⟩ := T.f_after_choice
  exact ⟨_, hmg, fn_mk (k := 3) F sc_after_choice (F.bindsN fun _ _ _ _ _ _ us hl => match us, hl with | [_, _, _], _ => rfl) (fun cdv A outer s H E hr => by
    have sc := sc_after_choice
    have hu := hr.units
    have hu1 := hu_of hr
    exact (sss_cons (ss_setLc (i := 3) (own := [("at", 5), ("row", 6)]) (t := (.tup [5, 6])) (SI.sic (si_enum (se_var rfl (i := 0)) h_enumerate)) sc.nd (blkOk_by (by kernel_rfl)) (by decide) (fun s H C cl fp => (sg_tup (sgs_cons (i := 5) (sgs_cons (i := 6) sgs_nil sc.nd) sc.nd))) (fun s H C cl fp => sts_nil) (fun s H C cl fp => (se_dget2 hu1 (se_var rfl (i := 2)) (se_var rfl (i := 5)) (se_ix (sb_var rfl (i := 6)) (SE.sb (se_int rfl))))))
    (sss_cons (ss_setN (i := 4) (sn_lst (sa_nil rfl)) sc.nd)
    (sss_cons (ss_for (t := (.tup [5, 6])) (si_enum (se_var rfl (i := 0)) h_enumerate) (sg_tup (sgs_cons (i := 5) (sgs_cons (i := 6) sgs_nil sc.nd) sc.nd)) (sss_cons (ss_setN (i := 7) (sn_list (sab_cons (SE.sb (se_ix (sb_var rfl (i := 6)) (SE.sb (se_int rfl)))) (sab_nil rfl)) h_list) sc.nd)
    (sss_cons (ss_for (t := (.one 8)) (si_range1 (sa_cons (se_len (sab_cons (sb_var rfl (i := 7)) (sab_nil rfl)) h_len) (sa_nil rfl)) h_range) (sg_one (i := 8) sc.nd) (sss_one (ss_if (st_in hu (SE.sb (se_tup (sa_cons (se_var rfl (i := 5)) (sa_cons (se_var rfl (i := 8)) (sa_nil rfl))))) (sb_var rfl (i := 1))) (sss_one (ss_setIx (i := 7) (se_tup (sa_cons (se_str rfl) (sa_cons (se_ix (sb_var rfl (i := 3)) (SE.sb (se_call G_meant_at (hr.mono (by decide)) hg_meant_at tk_def (sa_cons (se_var rfl (i := 0)) (sa_cons (se_tup (sa_cons (se_var rfl (i := 5)) (sa_cons (se_var rfl (i := 8)) (sa_nil rfl)))) (sa_nil rfl)))))) (sa_nil rfl)))) (se_var rfl (i := 8)))) (sss_nil rfl))) pa_def)
    (sss_one (ss_append (i := 4) (se_tup (sa_cons (se_ix (sb_var rfl (i := 3)) (sb_var rfl (i := 5))) (sa_cons (se_tuple (sab_cons (sb_var rfl (i := 7)) (sab_nil rfl)) h_tuple) (sa_nil rfl)))))))) pa_def)
    (sss_one (ss_ret (se_tuple (sab_cons (sb_var rfl (i := 4)) (sab_nil rfl)) h_tuple)))))))⟩
theorem sc_possible : FnScope ["rows", "every", "spot", "found", "choice", "labels"] ["rows"] (defScope (top 70)) := ⟨rfl, rfl, rfl, by decide +kernel, rfl, by decide +kernel, by decide +kernel⟩
theorem F_possible (T : Fc c w mg) : ∃ ad, mg "possible" = some (.ref ad) ∧ Fn c P w mg base 5 ad 1 m_possible := by
  have hC := T.C
  obtain ⟨_, hg_plain_spots, G_plain_spots⟩ := F_plain_spots (P := P) (base := base) T
  obtain ⟨_, hg_in_order, G_in_order⟩ := F_in_order (P := P) (base := base) T
  obtain ⟨_, hg_labels_for, G_labels_for⟩ := F_labels_for (P := P) (base := base) T
  obtain ⟨_, hg_after_choice, G_after_choice⟩ := F_after_choice (P := P) (base := base) T
  obtain ⟨ad, fd, hmg, F⟩ := T.f_possible
  exact ⟨_, hmg, fn_mk (k := 4) F sc_possible (F.bindsN fun _ _ _ _ _ _ us hl => match us, hl with | [_], _ => rfl) (fun cdv A outer s H E hr => by
    have sc := sc_possible
    have hu := hr.units
    have hu1 := hu_of hr
    exact (sss_cons (ss_setN (i := 1) (sn_lst (sa_cons (se_tup (sa_nil rfl)) (sa_nil rfl))) sc.nd)
    (sss_cons (ss_for (t := (.one 2)) (si_seq (se_call G_plain_spots (hr.mono (by decide)) hg_plain_spots tk_def (sa_cons (se_var rfl (i := 0)) (sa_nil rfl)))) (sg_one (i := 2) sc.nd) (sss_one (ss_setN (i := 1) (sn_lst (sa_star (sb_var rfl (i := 1)) (sa_star (SE.sb (SN.se (sn_lc (own := [("choice", 4)]) (t := (.one 4)) (sic_own (sb_var rfl (i := 1))) sc.nd (blkOk_by (by kernel_rfl)) (by decide) (fun s H C cl fp => (sg_one (i := 4) sc.nd)) (fun s H C cl fp => sts_nil) (fun s H C cl fp => (se_tup (sa_star (sb_var rfl (i := 4)) (sa_cons (se_var rfl (i := 2)) (sa_nil rfl)))))))) (sa_nil rfl)))) sc.nd)) pa_def)
    (sss_cons (ss_setN (i := 3) (sn_lst (sa_nil rfl)) sc.nd)
    (sss_cons (ss_frz [1] (ss_for (t := (.one 4)) (si_seq (se_call G_in_order (hr.mono (by decide)) hg_in_order tk_def (sa_cons (se_var rfl (i := 1)) (sa_nil rfl)))) (sg_one (i := 4) sc.nd) (sss_cons (ss_set (i := 5) (se_call G_labels_for (hr.mono (by decide)) hg_labels_for tk_def (sa_cons (se_var rfl (i := 0)) (sa_cons (se_var rfl (i := 4)) (sa_nil rfl)))) sc.nd)
    (sss_one (ss_if (st_notN (sb_var rfl (i := 5))) (sss_one (ss_append (i := 3) (se_tup (sa_cons (se_var rfl (i := 4)) (sa_cons (se_call G_after_choice (hr.mono (by decide)) hg_after_choice tk_def (sa_cons (se_var rfl (i := 0)) (sa_cons (se_var rfl (i := 4)) (sa_cons (se_var rfl (i := 5)) (sa_nil rfl))))) (sa_nil rfl)))))) (sss_nil rfl)))) pa_def))
    (sss_one (ss_frz [3] (ss_ret (se_var rfl (i := 3))))))))))⟩
theorem sc_Fewest_init : FnScope ["self", "choice", "sure", "doubts", "one", "doubt"] ["self", "choice", "sure", "doubts"] (defScope (inClass (top 76) 1)) := ⟨rfl, rfl, rfl, by decide +kernel, rfl, by decide +kernel, by decide +kernel⟩
theorem F_Fewest_init (T : Fc c w mg) : ∃ ad fd, Mk c.K (c.cls 6) ad ∧ FnOk P w c.K mg base (L2.CX P w) 1 ad fd ["self", "choice", "sure", "doubts"] (PromI c 3 6 m_Fewest_init) ∧ Binds c.K fd ["self", "choice", "sure", "doubts"] [] := by
  obtain ⟨_, hs_Fewest_choice⟩ := T.s_Fewest_choice
  obtain ⟨_, hs_Fewest_sure⟩ := T.s_Fewest_sure
  obtain ⟨_, hs_Fewest_doubts⟩ := T.s_Fewest_doubts
  have hcw : w = c.w := T.cw.symm
  have hC := T.C
  obtain ⟨ad, fd, hM, F⟩ := T.f_Fewest_init
  exact ⟨ad, fd, hM, initOk_mk (k := 0) F sc_Fewest_init rfl (by decide) (fun cdv A outer s H E hr => by
    have sc := sc_Fewest_init
    have hu := hr.units
    have hu1 := hu_of hr
    exact (sss_cons (ss_self (k := 6) (i := 0) (se_var rfl (i := 1)) (hC.sc 6 (by decide)) hs_Fewest_choice)
    (sss_cons (ss_self (k := 6) (i := 2) (se_var rfl (i := 2)) (hC.sc 6 (by decide)) hs_Fewest_sure)
    (sss_one (ss_self (k := 6) (i := 1) (se_dcX (own := [("one", 4), ("doubt", 5)]) (t := (.tup [4, 5])) hcw hu (SI.sic (si_itemsX hcw (se_var rfl (i := 3)))) sc.nd (blkOk_by (by kernel_rfl)) (by decide) (fun s H C cl fp => (sg_tup (sgs_cons (i := 4) (sgs_cons (i := 5) sgs_nil sc.nd) sc.nd))) (fun s H C cl fp => sts_nil) (fun s H C cl fp => (se_var rfl (i := 4))) (fun s H C cl fp => (se_var rfl (i := 5)))) (hC.sc 6 (by decide)) hs_Fewest_doubts))))), (F.bindsN fun _ _ _ _ _ _ us hl => match us, hl with | [_, _, _, _], _ => rfl)⟩
theorem sc_Hopeless_init : FnScope ["self", "doubts", "one", "doubt"] ["self", "doubts"] (defScope (inClass (top 77) 1)) := ⟨rfl, rfl, rfl, by decide +kernel, rfl, by decide +kernel, by decide +kernel⟩
theorem F_Hopeless_init (T : Fc c w mg) : ∃ ad fd, Mk c.K (c.cls 7) ad ∧ FnOk P w c.K mg base (L2.CX P w) 1 ad fd ["self", "doubts"] (PromI c 1 7 m_Hopeless_init) ∧ Binds c.K fd ["self", "doubts"] [] := by
  obtain ⟨_, hs_Hopeless_doubts⟩ := T.s_Hopeless_doubts
  have hcw : w = c.w := T.cw.symm
  have hC := T.C
  obtain ⟨ad, fd, hM, F⟩ := T.f_Hopeless_init
  exact ⟨ad, fd, hM, initOk_mk (k := 0) F sc_Hopeless_init rfl (by decide) (fun cdv A outer s H E hr => by
    have sc := sc_Hopeless_init
    have hu := hr.units
    have hu1 := hu_of hr
    exact (sss_one (ss_self (k := 7) (i := 0) (se_dcX (own := [("one", 2), ("doubt", 3)]) (t := (.tup [2, 3])) hcw hu (SI.sic (si_itemsX hcw (se_var rfl (i := 1)))) sc.nd (blkOk_by (by kernel_rfl)) (by decide) (fun s H C cl fp => (sg_tup (sgs_cons (i := 2) (sgs_cons (i := 3) sgs_nil sc.nd) sc.nd))) (fun s H C cl fp => sts_nil) (fun s H C cl fp => (se_var rfl (i := 2))) (fun s H C cl fp => (se_var rfl (i := 3)))) (hC.sc 7 (by decide)) hs_Hopeless_doubts))), (F.bindsN fun _ _ _ _ _ _ us hl => match us, hl with | [_, _], _ => rfl)⟩
theorem sc_fewest : FnScope ["plan", "steps", "doubts", "choice", "later", "answer", "one"] ["plan", "steps"] (defScope (top 78)) := ⟨rfl, rfl, rfl, by decide +kernel, rfl, by decide +kernel, by decide +kernel⟩
theorem F_fewest (T : Fc c w mg) : ∃ ad, mg "fewest" = some (.ref ad) ∧ Fn c P w mg base 11 ad 2 m_fewest := by
  have hcw : w = c.w := T.cw.symm
  have h_Sure := T.g_Sure
  have h_isinstance := T.g_isinstance
  have h_Fewest := T.g_Fewest
  have h_len := T.g_len
  have h_Hopeless := T.g_Hopeless
  have hC := T.C
  obtain ⟨_, hg_check_few, G_check_few⟩ := F_check_few (P := P) (base := base) T
  obtain ⟨_, hg_possible, G_possible⟩ := F_possible (P := P) (base := base) T
  obtain ⟨_, _, hp_Steps_rows, G_Steps_rows⟩ := F_Steps_rows (P := P) (base := base) T
  obtain ⟨_, hg_answer_for, G_answer_for⟩ := F_answer_for (P := P) (base := base) T
  obtain ⟨_, _, mk_Fewest, G_Fewest_init⟩ := F_Fewest_init (P := P) (base := base) T
  obtain ⟨_, _, mk_Hopeless, G_Hopeless_init⟩ := F_Hopeless_init (P := P) (base := base) T
  obtain ⟨ad, fd, hmg, F⟩ := T.f_fewest
  exact ⟨_, hmg, fn_mk (k := 10) F sc_fewest (F.bindsN fun _ _ _ _ _ _ us hl => match us, hl with | [_, _], _ => rfl) (fun cdv A outer s H E hr => by
    have sc := sc_fewest
    have hu := hr.units
    have hu1 := hu_of hr
    exact (sss_cons (ss_expr (se_call G_check_few (hr.mono (by decide)) hg_check_few tk_def (sa_cons (se_var rfl (i := 0)) (sa_cons (se_var rfl (i := 1)) (sa_nil rfl)))))
    (sss_cons (ss_set (i := 2) (se_newT0 hcw rfl) sc.nd)
    (sss_cons (ss_for (t := (.tup [3, 4])) (si_seq (se_call G_possible (hr.mono (by decide)) hg_possible tk_def (sa_cons (se_prop (k := 0) (se_var rfl (i := 1)) (hC.sc 0 (by decide)) hp_Steps_rows G_Steps_rows (hr.mono (by decide))) (sa_nil rfl)))) (sg_tup (sgs_cons (i := 3) (sgs_cons (i := 4) sgs_nil sc.nd) sc.nd)) (sss_cons (ss_set (i := 5) (se_call G_answer_for (hr.mono (by decide)) hg_answer_for tk_def (sa_cons (se_var rfl (i := 0)) (sa_cons (se_var rfl (i := 4)) (sa_nil rfl)))) sc.nd)
    (sss_cons (ss_if (st_val (se_iso hC (sab_cons (sb_var rfl (i := 5)) (sab_cons (SE.sb (se_glob (v := .ref (c.cls 3)) rfl (by rfl) h_Sure rfl (fun _ => .cls _))) (sab_nil rfl))) h_isinstance)) (sss_one (ss_ret (se_make (kc := 6) (ad := 0) mk_Fewest G_Fewest_init.1 G_Fewest_init.2 (hr.mono (by decide)) h_Fewest tk_def (sa_cons (se_var rfl (i := 3)) (sa_cons (se_var rfl (i := 5)) (sa_cons (se_dcX (own := [("one", 6)]) (t := (.one 6)) hcw hu (SI.sic (si_keysX hcw (se_var rfl (i := 2)))) sc.nd (blkOk_by (by kernel_rfl)) (by decide) (fun s H C cl fp => (sg_one (i := 6) sc.nd)) (fun s H C cl fp => (sts_one (st_lt (SE.sb (se_len (sab_cons (sb_var rfl (i := 6)) (sab_nil rfl)) h_len)) (SE.sb (se_len (sab_cons (sb_var rfl (i := 3)) (sab_nil rfl)) h_len))))) (fun s H C cl fp => (se_var rfl (i := 6))) (fun s H C cl fp => (se_getT hcw hu (sb_var rfl (i := 2)) (sb_var rfl (i := 6))))) (sa_nil rfl))))))) (sss_nil rfl))
    (sss_one (ss_putT hcw hu (se_var rfl (i := 5)) (se_var rfl (i := 2)) (se_var rfl (i := 3)))))) pa_def)
    (sss_one (ss_ret (se_make (kc := 7) (ad := 0) mk_Hopeless G_Hopeless_init.1 G_Hopeless_init.2 (hr.mono (by decide)) h_Hopeless tk_def (sa_cons (se_var rfl (i := 2)) (sa_nil rfl)))))))))⟩
theorem sc_fewest_size : FnScope ["plan", "steps", "found"] ["plan", "steps"] (defScope (top 79)) := ⟨rfl, rfl, rfl, by decide +kernel, rfl, by decide +kernel, by decide +kernel⟩
theorem F_fewest_size (T : Fc c w mg) : ∃ ad, mg "fewest_size" = some (.ref ad) ∧ Fn c P w mg base 12 ad 2 m_fewest_size := by
  have h_Fewest := T.g_Fewest
  have h_isinstance := T.g_isinstance
  obtain ⟨_, hs_Fewest_choice⟩ := T.s_Fewest_choice
  have h_len := T.g_len
  have hC := T.C
  obtain ⟨_, hg_fewest, G_fewest⟩ := F_fewest (P := P) (base := base) T
  obtain ⟨ad, fd, hmg, F⟩ := T.f_fewest_size
  exact ⟨_, hmg, fn_mk (k := 11) F sc_fewest_size (F.bindsN fun _ _ _ _ _ _ us hl => match us, hl with | [_, _], _ => rfl) (fun cdv A outer s H E hr => by
    have sc := sc_fewest_size
    have hu := hr.units
    have hu1 := hu_of hr
    exact (sss_cons (ss_set (i := 2) (se_call G_fewest (hr.mono (by decide)) hg_fewest tk_def (sa_cons (se_var rfl (i := 0)) (sa_cons (se_var rfl (i := 1)) (sa_nil rfl)))) sc.nd)
    (sss_one (ss_ret (se_if (st_val (se_iso hC (sab_cons (sb_var rfl (i := 2)) (sab_cons (SE.sb (se_glob (v := .ref (c.cls 6)) rfl (by rfl) h_Fewest rfl (fun _ => .cls _))) (sab_nil rfl))) h_isinstance)) (se_len (sab_cons (SE.sb (se_attr (k := 6) (i := 0) (se_var rfl (i := 2)) (hC.sc 6 (by decide)) hs_Fewest_choice)) (sab_nil rfl)) h_len) (se_non rfl))))))⟩
theorem sc_is_spot_pair : FnScope ["thing", "one"] ["thing"] (defScope (top 72)) := ⟨rfl, rfl, rfl, by decide +kernel, rfl, by decide +kernel, by decide +kernel⟩
theorem F_is_spot_pair (T : Fc c w mg) : ∃ ad, mg "is_spot_pair" = some (.ref ad) ∧ Fn c P w mg base 2 ad 1 m_is_spot_pair := by
  have h_tuple := T.g_tuple
  have h_isinstance := T.g_isinstance
  have h_len := T.g_len
  have h_all := T.g_all
  have hC := T.C
  obtain ⟨_, hg_is_number, G_is_number⟩ := F_is_number (P := P) (base := base) T
  obtain ⟨ad, fd, hmg, F⟩ := T.f_is_spot_pair
  exact ⟨_, hmg, fn_mk (k := 1) F sc_is_spot_pair (F.bindsN fun _ _ _ _ _ _ us hl => match us, hl with | [_], _ => rfl) (fun cdv A outer s H E hr => by
    have sc := sc_is_spot_pair
    have hu := hr.units
    have hu1 := hu_of hr
    exact (sss_one (ss_ret (se_and (se_isi (sab_cons (sb_var rfl (i := 0)) (sab_cons (SE.sb (se_bltn (v := .ty "tuple") rfl (by rfl) h_tuple boot_tuple rfl (fun _ => .ty _))) (sab_nil rfl))) h_isinstance) (se_and (se_eq hu (SE.sb (se_len (sab_cons (sb_var rfl (i := 0)) (sab_nil rfl)) h_len)) (SE.sb (se_int rfl))) (se_and1 (se_all (sab_cons (SE.sb (SN.se (sn_lc (own := [("one", 1)]) (t := (.one 1)) (SI.sic (si_seq (se_var rfl (i := 0)))) sc.nd (blkOk_by (by kernel_rfl)) (by decide) (fun s H C cl fp => (sg_one (i := 1) sc.nd)) (fun s H C cl fp => sts_nil) (fun s H C cl fp => (se_call G_is_number (hr.mono (by decide)) hg_is_number tk_in (sa_cons (se_var rfl (i := 1)) (sa_cons (se_int rfl) (sa_cons (se_int rfl) (sa_nil rfl))))))))) (sab_nil rfl)) h_all)))))))⟩
theorem sc_labelled : FnScope ["steps", "choice", "spots", "labels", "spot", "one"] ["steps", "choice"] (defScope (top 73)) := ⟨rfl, rfl, rfl, by decide +kernel, rfl, by decide +kernel, by decide +kernel⟩
theorem F_labelled (T : Fc c w mg) : ∃ ad, mg "labelled" = some (.ref ad) ∧ Fn c P w mg base 6 ad 2 m_labelled := by
  have h_tuple := T.g_tuple
  have h_isinstance := T.g_isinstance
  have h_all := T.g_all
  have h_list := T.g_list
  have h_Steps := T.g_Steps
  have hC := T.C
  obtain ⟨_, hg_check_steps, G_check_steps⟩ := F_check_steps (P := P) (base := base) T
  obtain ⟨_, hm_Steps_is_whole, G_Steps_is_whole⟩ := F_Steps_is_whole (P := P) (base := base) T
  obtain ⟨_, hg_is_spot_pair, G_is_spot_pair⟩ := F_is_spot_pair (P := P) (base := base) T
  obtain ⟨_, hg_plain_spots, G_plain_spots⟩ := F_plain_spots (P := P) (base := base) T
  obtain ⟨_, _, hp_Steps_rows, G_Steps_rows⟩ := F_Steps_rows (P := P) (base := base) T
  obtain ⟨_, hg_labels_for, G_labels_for⟩ := F_labels_for (P := P) (base := base) T
  obtain ⟨_, _, mk_Steps, G_Steps_init⟩ := F_Steps_init (P := P) (base := base) T
  obtain ⟨_, hg_after_choice, G_after_choice⟩ := F_after_choice (P := P) (base := base) T
  obtain ⟨ad, fd, hmg, F⟩ := T.f_labelled
  exact ⟨_, hmg, fn_mk (k := 5) F sc_labelled (F.bindsN fun _ _ _ _ _ _ us hl => match us, hl with | [_, _], _ => rfl) (fun cdv A outer s H E hr => by
    have sc := sc_labelled
    have hu := hr.units
    have hu1 := hu_of hr
    exact (sss_cons (ss_expr (se_call G_check_steps (hr.mono (by decide)) hg_check_steps tk_def (sa_cons (se_var rfl (i := 0)) (sa_nil rfl))))
    (sss_cons (ss_if (st_not (st_val (se_meth0 (k := 0) (se_var rfl (i := 0)) (hC.sc 0 (by decide)) hm_Steps_is_whole G_Steps_is_whole (hr.mono (by decide)) tk_def))) (sss_one (ss_never rfl)) (sss_nil rfl))
    (sss_cons (ss_if (SW.st (sw_or (st_not (st_val (se_isi (sab_cons (sb_var rfl (i := 1)) (sab_cons (SE.sb (se_bltn (v := .ty "tuple") rfl (by rfl) h_tuple boot_tuple rfl (fun _ => .ty _))) (sab_nil rfl))) h_isinstance))) (sw_or1 (st_not (st_val (se_all (sab_cons (SE.sb (SN.se (sn_lc (own := [("one", 5)]) (t := (.one 5)) (SI.sic (si_seq (se_var rfl (i := 1)))) sc.nd (blkOk_by (by kernel_rfl)) (by decide) (fun s H C cl fp => (sg_one (i := 5) sc.nd)) (fun s H C cl fp => sts_nil) (fun s H C cl fp => (se_call G_is_spot_pair (hr.mono (by decide)) hg_is_spot_pair tk_in (sa_cons (se_var rfl (i := 5)) (sa_nil rfl))))))) (sab_nil rfl)) h_all)))))) (sss_one (ss_never rfl)) (sss_nil rfl))
    (sss_cons (ss_set (i := 2) (se_call G_plain_spots (hr.mono (by decide)) hg_plain_spots tk_def (sa_cons (se_prop (k := 0) (se_var rfl (i := 0)) (hC.sc 0 (by decide)) hp_Steps_rows G_Steps_rows (hr.mono (by decide))) (sa_nil rfl))) sc.nd)
    (sss_cons (ss_if (st_ne hu (SE.sb (SN.se (sn_list (sab_cons (sb_var rfl (i := 1)) (sab_nil rfl)) h_list))) (SE.sb (SN.se (sn_lc (own := [("spot", 4)]) (t := (.one 4)) (SI.sic (si_seq (se_var rfl (i := 2)))) sc.nd (blkOk_by (by kernel_rfl)) (by decide) (fun s H C cl fp => (sg_one (i := 4) sc.nd)) (fun s H C cl fp => (sts_one (st_in hu (sb_var rfl (i := 4)) (sb_var rfl (i := 1))))) (fun s H C cl fp => (se_var rfl (i := 4))))))) (sss_one (ss_never rfl)) (sss_nil rfl))
    (sss_cons (ss_set (i := 3) (se_call G_labels_for (hr.mono (by decide)) hg_labels_for tk_def (sa_cons (se_prop (k := 0) (se_var rfl (i := 0)) (hC.sc 0 (by decide)) hp_Steps_rows G_Steps_rows (hr.mono (by decide))) (sa_cons (se_var rfl (i := 1)) (sa_nil rfl)))) sc.nd)
    (sss_cons (ss_if (st_isN (sb_var rfl (i := 3))) (sss_one (ss_never rfl)) (sss_nil rfl))
    (sss_one (ss_ret (se_make (kc := 0) (ad := 0) mk_Steps G_Steps_init.1 G_Steps_init.2 (hr.mono (by decide)) h_Steps tk_def (sa_cons (se_call G_after_choice (hr.mono (by decide)) hg_after_choice tk_def (sa_cons (se_prop (k := 0) (se_var rfl (i := 0)) (hC.sc 0 (by decide)) hp_Steps_rows G_Steps_rows (hr.mono (by decide))) (sa_cons (se_var rfl (i := 1)) (sa_cons (se_var rfl (i := 3)) (sa_nil rfl))))) (sa_nil rfl)))))))))))))⟩
theorem sc_are_doubts : FnScope ["plan", "rows", "doubts", "choice", "later"] ["plan", "rows", "doubts"] (defScope (top 75)) := ⟨rfl, rfl, rfl, by decide +kernel, rfl, by decide +kernel, by decide +kernel⟩
theorem F_are_doubts (T : Fc c w mg) : ∃ ad, mg "are_doubts" = some (.ref ad) ∧ Fn c P w mg base 8 ad 3 m_are_doubts := by
  have hcw : w = c.w := T.cw.symm
  have h_len := T.g_len
  have h_all := T.g_all
  have h_Astray := T.g_Astray
  have h_isinstance := T.g_isinstance
  have h_Steps := T.g_Steps
  have hC := T.C
  obtain ⟨_, _, mk_Steps, G_Steps_init⟩ := F_Steps_init (P := P) (base := base) T
  obtain ⟨_, hm_Astray_shows, G_Astray_shows⟩ := F_Astray_shows (P := P) (base := base) T
  obtain ⟨ad, fd, hmg, F⟩ := T.f_are_doubts
  exact ⟨_, hmg, fn_mk (k := 7) F sc_are_doubts (F.bindsN fun _ _ _ _ _ _ us hl => match us, hl with | [_, _, _], _ => rfl) (fun cdv A outer s H E hr => by
    have sc := sc_are_doubts
    have hu := hr.units
    have hu1 := hu_of hr
    exact (sss_cons (ss_if (SW.st (sw_or (st_ne hu (SE.sb (se_lenX hcw (sab_cons (sb_var rfl (i := 2)) (sab_nil rfl)) h_len)) (SE.sb (se_len (sab_cons (sb_var rfl (i := 1)) (sab_nil rfl)) h_len))) (sw_or1 (st_not (st_val (se_all (sab_cons (SE.sb (SN.se (sn_lc (own := [("choice", 3), ("later", 4)]) (t := (.tup [3, 4])) (SI.sic (si_seq (se_var rfl (i := 1)))) sc.nd (blkOk_by (by kernel_rfl)) (by decide) (fun s H C cl fp => (sg_tup (sgs_cons (i := 3) (sgs_cons (i := 4) sgs_nil sc.nd) sc.nd))) (fun s H C cl fp => sts_nil) (fun s H C cl fp => (se_inT hcw hu (sb_var rfl (i := 3)) (sb_var rfl (i := 2))))))) (sab_nil rfl)) h_all)))))) (sss_one (ss_ret (se_bl rfl))) (sss_nil rfl))
    (sss_cons (ss_for (t := (.tup [3, 4])) (si_seq (se_var rfl (i := 1))) (sg_tup (sgs_cons (i := 3) (sgs_cons (i := 4) sgs_nil sc.nd) sc.nd)) (sss_one (ss_if (SW.st (sw_or (st_not (st_val (se_iso hC (sab_cons (SE.sb (se_getT hcw hu (sb_var rfl (i := 2)) (sb_var rfl (i := 3)))) (sab_cons (SE.sb (se_glob (v := .ref (c.cls 4)) rfl (by rfl) h_Astray rfl (fun _ => .cls _))) (sab_nil rfl))) h_isinstance))) (sw_or1 (st_not (st_val (se_meth (k := 4) (se_getT hcw hu (sb_var rfl (i := 2)) (sb_var rfl (i := 3))) (sa_cons (se_var rfl (i := 0)) (sa_cons (se_make (kc := 0) (ad := 0) mk_Steps G_Steps_init.1 G_Steps_init.2 (hr.mono (by decide)) h_Steps tk_def (sa_cons (se_var rfl (i := 4)) (sa_nil rfl))) (sa_nil rfl))) (hC.sc 4 (by decide)) hm_Astray_shows G_Astray_shows (hr.mono (by decide)) tk_def)))))) (sss_one (ss_ret (se_bl rfl))) (sss_nil rfl))) pa_def)
    (sss_one (ss_ret (se_bl rfl))))))⟩
theorem sc_Fewest_shows : FnScope ["self", "plan", "steps", "rows", "mine", "choice", "later", "row"] ["self", "plan", "steps"] (defScope (inClass (top 76) 3)) := ⟨rfl, rfl, rfl, by decide +kernel, rfl, by decide +kernel, by decide +kernel⟩
theorem F_Fewest_shows (T : Fc c w mg) : ∃ ad, Meth c.K (c.cls 6) "shows" ad ∧ Fn c P w mg base 10 ad 3 m_Fewest_shows := by
  obtain ⟨_, hs_Fewest_choice⟩ := T.s_Fewest_choice
  obtain ⟨_, hs_Fewest_sure⟩ := T.s_Fewest_sure
  have h_Sure := T.g_Sure
  have h_isinstance := T.g_isinstance
  have h_Steps := T.g_Steps
  have h_len := T.g_len
  obtain ⟨_, hs_Fewest_doubts⟩ := T.s_Fewest_doubts
  have hC := T.C
  obtain ⟨_, hg_check_few, G_check_few⟩ := F_check_few (P := P) (base := base) T
  obtain ⟨_, hg_possible, G_possible⟩ := F_possible (P := P) (base := base) T
  obtain ⟨_, _, hp_Steps_rows, G_Steps_rows⟩ := F_Steps_rows (P := P) (base := base) T
  obtain ⟨_, _, mk_Steps, G_Steps_init⟩ := F_Steps_init (P := P) (base := base) T
  obtain ⟨_, hm_Sure_shows, G_Sure_shows⟩ := F_Sure_shows (P := P) (base := base) T
  obtain ⟨_, hg_are_doubts, G_are_doubts⟩ := F_are_doubts (P := P) (base := base) T
  obtain ⟨ad, fd, hmg, F⟩ := T.f_Fewest_shows
  exact ⟨_, hmg, fn_mk (k := 9) F sc_Fewest_shows (F.bindsN fun _ _ _ _ _ _ us hl => match us, hl with | [_, _, _], _ => rfl) (fun cdv A outer s H E hr => by
    have sc := sc_Fewest_shows
    have hu := hr.units
    have hu1 := hu_of hr
    exact (sss_cons (ss_expr (se_call G_check_few (hr.mono (by decide)) hg_check_few tk_def (sa_cons (se_var rfl (i := 1)) (sa_cons (se_var rfl (i := 2)) (sa_nil rfl)))))
    (sss_cons (ss_set (i := 3) (se_call G_possible (hr.mono (by decide)) hg_possible tk_def (sa_cons (se_prop (k := 0) (se_var rfl (i := 2)) (hC.sc 0 (by decide)) hp_Steps_rows G_Steps_rows (hr.mono (by decide))) (sa_nil rfl))) sc.nd)
    (sss_cons (ss_setLc (i := 4) (own := [("choice", 5), ("later", 6)]) (t := (.tup [5, 6])) (SI.sic (si_seq (se_var rfl (i := 3)))) sc.nd (blkOk_by (by kernel_rfl)) (by decide) (fun s H C cl fp => (sg_tup (sgs_cons (i := 5) (sgs_cons (i := 6) sgs_nil sc.nd) sc.nd))) (fun s H C cl fp => (sts_one (st_eq hu (sb_var rfl (i := 5)) (SE.sb (se_attr (k := 6) (i := 0) (se_var rfl (i := 0)) (hC.sc 6 (by decide)) hs_Fewest_choice))))) (fun s H C cl fp => (se_var rfl (i := 6))))
    (sss_cons (ss_if (SW.st (sw_or (st_eq hu (sb_var rfl (i := 4)) (SE.sb (SN.se (sn_lst (sa_nil rfl))))) (sw_or (st_not (st_val (se_iso hC (sab_cons (SE.sb (se_attr (k := 6) (i := 2) (se_var rfl (i := 0)) (hC.sc 6 (by decide)) hs_Fewest_sure)) (sab_cons (SE.sb (se_glob (v := .ref (c.cls 3)) rfl (by rfl) h_Sure rfl (fun _ => .cls _))) (sab_nil rfl))) h_isinstance))) (sw_or1 (st_not (st_val (se_meth (k := 3) (se_attr (k := 6) (i := 2) (se_var rfl (i := 0)) (hC.sc 6 (by decide)) hs_Fewest_sure) (sa_cons (se_var rfl (i := 1)) (sa_cons (se_make (kc := 0) (ad := 0) mk_Steps G_Steps_init.1 G_Steps_init.2 (hr.mono (by decide)) h_Steps tk_def (sa_cons (se_ix (sb_var rfl (i := 4)) (SE.sb (se_int rfl))) (sa_nil rfl))) (sa_nil rfl))) (hC.sc 3 (by decide)) hm_Sure_shows G_Sure_shows (hr.mono (by decide)) tk_def))))))) (sss_one (ss_ret (se_bl rfl))) (sss_nil rfl))
    (sss_one (ss_ret (se_call G_are_doubts (hr.mono (by decide)) hg_are_doubts tk_def (sa_cons (se_var rfl (i := 1)) (sa_cons (SN.se (sn_lc (own := [("row", 7)]) (t := (.one 7)) (SI.sic (si_seq (se_var rfl (i := 3)))) sc.nd (blkOk_by (by kernel_rfl)) (by decide) (fun s H C cl fp => (sg_one (i := 7) sc.nd)) (fun s H C cl fp => (sts_one (st_lt (SE.sb (se_len (sab_cons (SE.sb (se_ix (sb_var rfl (i := 7)) (SE.sb (se_int rfl)))) (sab_nil rfl)) h_len)) (SE.sb (se_len (sab_cons (SE.sb (se_attr (k := 6) (i := 0) (se_var rfl (i := 0)) (hC.sc 6 (by decide)) hs_Fewest_choice)) (sab_nil rfl)) h_len))))) (fun s H C cl fp => (se_var rfl (i := 7))))) (sa_cons (se_attr (k := 6) (i := 1) (se_var rfl (i := 0)) (hC.sc 6 (by decide)) hs_Fewest_doubts) (sa_nil rfl))))))))))))⟩
theorem sc_Hopeless_shows : FnScope ["self", "plan", "steps"] ["self", "plan", "steps"] (defScope (inClass (top 77) 3)) := ⟨rfl, rfl, rfl, by decide +kernel, rfl, by decide +kernel, by decide +kernel⟩
theorem F_Hopeless_shows (T : Fc c w mg) : ∃ ad, Meth c.K (c.cls 7) "shows" ad ∧ Fn c P w mg base 9 ad 3 m_Hopeless_shows := by
  obtain ⟨_, hs_Hopeless_doubts⟩ := T.s_Hopeless_doubts
  have hC := T.C
  obtain ⟨_, hg_check_few, G_check_few⟩ := F_check_few (P := P) (base := base) T
  obtain ⟨_, hg_are_doubts, G_are_doubts⟩ := F_are_doubts (P := P) (base := base) T
  obtain ⟨_, hg_possible, G_possible⟩ := F_possible (P := P) (base := base) T
  obtain ⟨_, _, hp_Steps_rows, G_Steps_rows⟩ := F_Steps_rows (P := P) (base := base) T
  obtain ⟨ad, fd, hmg, F⟩ := T.f_Hopeless_shows
  exact ⟨_, hmg, fn_mk (k := 8) F sc_Hopeless_shows (F.bindsN fun _ _ _ _ _ _ us hl => match us, hl with | [_, _, _], _ => rfl) (fun cdv A outer s H E hr => by
    have sc := sc_Hopeless_shows
    have hu := hr.units
    have hu1 := hu_of hr
    exact (sss_cons (ss_expr (se_call G_check_few (hr.mono (by decide)) hg_check_few tk_def (sa_cons (se_var rfl (i := 1)) (sa_cons (se_var rfl (i := 2)) (sa_nil rfl)))))
    (sss_one (ss_ret (se_call G_are_doubts (hr.mono (by decide)) hg_are_doubts tk_def (sa_cons (se_var rfl (i := 1)) (sa_cons (se_call G_possible (hr.mono (by decide)) hg_possible tk_def (sa_cons (se_prop (k := 0) (se_var rfl (i := 2)) (hC.sc 0 (by decide)) hp_Steps_rows G_Steps_rows (hr.mono (by decide))) (sa_nil rfl))) (sa_cons (se_attr (k := 7) (i := 0) (se_var rfl (i := 0)) (hC.sc 7 (by decide)) hs_Hopeless_doubts) (sa_nil rfl)))))))))⟩
theorem sc__law_labels_right : FnScope ["_law_steps", "_law_found", "_law_still", "_law_twins", "_law_plan", "_law_worse"] [] (defScope (top 88)) := ⟨rfl, rfl, rfl, by decide +kernel, rfl, by decide +kernel, by decide +kernel⟩
theorem F__law_labels_right (T : Fc c w mg) : ∃ ad, mg "_law_labels_right" = some (.ref ad) ∧ Fn c P w mg base 13 ad 0 m__law_labels_right := by
  have h_Steps := T.g_Steps
  have h_Plan := T.g_Plan
  have h_Way := T.g_Way
  obtain ⟨_, hs_Fewest_choice⟩ := T.s_Fewest_choice
  obtain ⟨_, hs_Fewest_doubts⟩ := T.s_Fewest_doubts
  have hcw : w = c.w := T.cw.symm
  have h_list := T.g_list
  have h_Fewest := T.g_Fewest
  obtain ⟨_, hs_Fewest_sure⟩ := T.s_Fewest_sure
  have h_Astray := T.g_Astray
  have h_Hopeless := T.g_Hopeless
  have h_isinstance := T.g_isinstance
  have hC := T.C
  obtain ⟨_, _, hcm_Steps_of, G_Steps_of⟩ := F_Steps_of (P := P) (base := base) T
  obtain ⟨_, _, mk_Plan, G_Plan_init⟩ := F_Plan_init (P := P) (base := base) T
  obtain ⟨_, _, mk_Way, G_Way_init⟩ := F_Way_init (P := P) (base := base) T
  obtain ⟨_, hg_fewest, G_fewest⟩ := F_fewest (P := P) (base := base) T
  obtain ⟨_, hg_fewest_size, G_fewest_size⟩ := F_fewest_size (P := P) (base := base) T
  obtain ⟨_, hg_labelled, G_labelled⟩ := F_labelled (P := P) (base := base) T
  obtain ⟨_, _, hp_Steps_rows, G_Steps_rows⟩ := F_Steps_rows (P := P) (base := base) T
  obtain ⟨_, _, mk_Fewest, G_Fewest_init⟩ := F_Fewest_init (P := P) (base := base) T
  obtain ⟨_, hm_Fewest_shows, G_Fewest_shows⟩ := F_Fewest_shows (P := P) (base := base) T
  obtain ⟨_, _, mk_Astray, G_Astray_init⟩ := F_Astray_init (P := P) (base := base) T
  obtain ⟨_, _, mk_Hopeless, G_Hopeless_init⟩ := F_Hopeless_init (P := P) (base := base) T
  obtain ⟨_, hm_Hopeless_shows, G_Hopeless_shows⟩ := F_Hopeless_shows (P := P) (base := base) T
  obtain ⟨ad, fd, hmg, F⟩ := T.f__law_labels_right
  exact ⟨_, hmg, fn_mk (k := 12) F sc__law_labels_right (F.bindsN fun _ _ _ _ _ _ us hl => match us, hl with | [], _ => rfl) (fun cdv A outer s H E hr => by
    have sc := sc__law_labels_right
    have hu := hr.units
    have hu1 := hu_of hr
    exact (sss_cons (ss_set (i := 0) (se_cmetS (kc := 0) h_Steps hcm_Steps_of G_Steps_of (hr.mono (by decide)) tk_def (sa_cons (se_tup (sa_cons (se_non rfl) (sa_cons (se_tup (sa_nil rfl)) (sa_nil rfl)))) (sa_cons (se_tup (sa_cons (se_str rfl) (sa_cons (se_tup (sa_cons (se_tup (sa_cons (se_str rfl) (sa_cons (se_int rfl) (sa_nil rfl)))) (sa_cons (se_tup (sa_cons (se_str rfl) (sa_cons (se_int rfl) (sa_nil rfl)))) (sa_nil rfl)))) (sa_nil rfl)))) (sa_cons (se_tup (sa_cons (se_non rfl) (sa_cons (se_tup (sa_cons (se_tup (sa_cons (se_str rfl) (sa_cons (se_int rfl) (sa_nil rfl)))) (sa_nil rfl))) (sa_nil rfl)))) (sa_nil rfl))))) sc.nd)
    (sss_cons (ss_parS (i := 4) (j := 5) (sam_val (se_makePK (kc := 2) (np := 2) mk_Plan G_Plan_init.1 (kbp_Plan_init G_Plan_init.2) (fun Ψ v vs zs es ds r1 r2 _ _ => ⟨_, rfl, r1.app r2⟩) (hr.mono (by decide)) h_Plan tk_def (sa_cons (se_makeK (kc := 1) mk_Way G_Way_init.1 (kb_Way_init_2 G_Way_init.2) kv_Way_init_2 (hr.mono (by decide)) h_Way tk_def (sk_cons (se_str rfl) (sk_nil rfl))) (sa_cons (se_tup (sa_cons (se_str rfl) (sa_nil rfl))) (sa_nil rfl))) (sk_cons (se_int rfl) (sk_nil rfl))) (sam_val (se_makeD (kc := 2) mk_Plan G_Plan_init.1 (dfl_Plan_init G_Plan_init.2).choose_spec.2 (dfl_Plan_init G_Plan_init.2).choose_spec.1 (fun _ => (.cons (.int _) .nil)) (hr.mono (by decide)) h_Plan tk_def (sa_cons (se_makeK (kc := 1) mk_Way G_Way_init.1 (kb_Way_init_0 G_Way_init.2) kv_Way_init_0 (hr.mono (by decide)) h_Way tk_def (sk_nil rfl)) (sa_cons (se_tup (sa_cons (se_str rfl) (sa_cons (se_str rfl) (sa_nil rfl)))) (sa_nil rfl)))) (sam_nil rfl))) sc.nd)
    (sss_cons (ss_set (i := 1) (se_call G_fewest (hr.mono (by decide)) hg_fewest tk_def (sa_cons (se_var rfl (i := 4)) (sa_cons (se_var rfl (i := 0)) (sa_nil rfl)))) sc.nd)
    (sss_cons (ss_if (SW.st (sw_or (st_ne hu (SE.sb (se_attr (k := 6) (i := 0) (se_var rfl (i := 1)) (hC.sc 6 (by decide)) hs_Fewest_choice)) (SE.sb (se_tup (sa_cons (se_tup (sa_cons (se_int rfl) (sa_cons (se_int rfl) (sa_nil rfl)))) (sa_nil rfl))))) (sw_or (st_ne hu (SE.sb (SN.se (sn_listX hcw (sab_cons (SE.sb (se_attr (k := 6) (i := 1) (se_var rfl (i := 1)) (hC.sc 6 (by decide)) hs_Fewest_doubts)) (sab_nil rfl)) h_list))) (SE.sb (SN.se (sn_lst (sa_cons (se_tup (sa_nil rfl)) (sa_nil rfl)))))) (sw_or1 (st_notN (SE.sb (se_call G_fewest_size (hr.mono (by decide)) hg_fewest_size tk_def (sa_cons (se_var rfl (i := 5)) (sa_cons (se_var rfl (i := 0)) (sa_nil rfl)))))))))) (sss_one (ss_ret (se_bl rfl))) (sss_nil rfl))
    (sss_cons (ss_if (st_ne hu (SE.sb (se_prop (k := 0) (se_call G_labelled (hr.mono (by decide)) hg_labelled tk_def (sa_cons (se_var rfl (i := 0)) (sa_cons (se_tup (sa_cons (se_tup (sa_cons (se_int rfl) (sa_cons (se_int rfl) (sa_nil rfl)))) (sa_cons (se_tup (sa_cons (se_int rfl) (sa_cons (se_int rfl) (sa_nil rfl)))) (sa_cons (se_tup (sa_cons (se_int rfl) (sa_cons (se_int rfl) (sa_nil rfl)))) (sa_nil rfl))))) (sa_nil rfl)))) (hC.sc 0 (by decide)) hp_Steps_rows G_Steps_rows (hr.mono (by decide)))) (SE.sb (se_tup (sa_cons (se_tup (sa_cons (se_str rfl) (sa_cons (se_tup (sa_nil rfl)) (sa_nil rfl)))) (sa_cons (se_tup (sa_cons (se_str rfl) (sa_cons (se_tup (sa_cons (se_tup (sa_cons (se_str rfl) (sa_cons (se_str rfl) (sa_nil rfl)))) (sa_cons (se_tup (sa_cons (se_str rfl) (sa_cons (se_str rfl) (sa_nil rfl)))) (sa_nil rfl)))) (sa_nil rfl)))) (sa_cons (se_tup (sa_cons (se_non rfl) (sa_cons (se_tup (sa_cons (se_tup (sa_cons (se_str rfl) (sa_cons (se_str rfl) (sa_nil rfl)))) (sa_nil rfl))) (sa_nil rfl)))) (sa_nil rfl))))))) (sss_one (ss_ret (se_bl rfl))) (sss_nil rfl))
    (sss_cons (ss_if (SW.st (sw_or (st_val (se_meth (k := 6) (se_make (kc := 6) (ad := 0) mk_Fewest G_Fewest_init.1 G_Fewest_init.2 (hr.mono (by decide)) h_Fewest tk_def (sa_cons (se_tup (sa_cons (se_tup (sa_cons (se_int rfl) (sa_cons (se_int rfl) (sa_nil rfl)))) (sa_nil rfl))) (sa_cons (se_attr (k := 6) (i := 2) (se_var rfl (i := 1)) (hC.sc 6 (by decide)) hs_Fewest_sure) (sa_cons (se_attr (k := 6) (i := 1) (se_var rfl (i := 1)) (hC.sc 6 (by decide)) hs_Fewest_doubts) (sa_nil rfl))))) (sa_cons (se_var rfl (i := 4)) (sa_cons (se_var rfl (i := 0)) (sa_nil rfl))) (hC.sc 6 (by decide)) hm_Fewest_shows G_Fewest_shows (hr.mono (by decide)) tk_def)) (sw_or1 (st_not (st_val (se_meth (k := 6) (se_make (kc := 6) (ad := 0) mk_Fewest G_Fewest_init.1 G_Fewest_init.2 (hr.mono (by decide)) h_Fewest tk_def (sa_cons (se_attr (k := 6) (i := 0) (se_var rfl (i := 1)) (hC.sc 6 (by decide)) hs_Fewest_choice) (sa_cons (se_attr (k := 6) (i := 2) (se_var rfl (i := 1)) (hC.sc 6 (by decide)) hs_Fewest_sure) (sa_cons (se_newT1 hcw hu (se_tup (sa_nil rfl)) (se_make (kc := 4) (ad := 0) mk_Astray G_Astray_init.1 G_Astray_init.2 (hr.mono (by decide)) h_Astray tk_def (sa_cons (SN.se (sn_lst (sa_cons (se_tup (sa_cons (se_str rfl) (sa_cons (se_int rfl) (sa_cons (se_int rfl) (sa_nil rfl))))) (sa_nil rfl)))) (sa_nil rfl)))) (sa_nil rfl))))) (sa_cons (se_var rfl (i := 4)) (sa_cons (se_var rfl (i := 0)) (sa_nil rfl))) (hC.sc 6 (by decide)) hm_Fewest_shows G_Fewest_shows (hr.mono (by decide)) tk_def)))))) (sss_one (ss_ret (se_bl rfl))) (sss_nil rfl))
    (sss_cons (ss_if (SW.st (sw_or (st_val (se_meth (k := 6) (se_make (kc := 6) (ad := 0) mk_Fewest G_Fewest_init.1 G_Fewest_init.2 (hr.mono (by decide)) h_Fewest tk_def (sa_cons (se_attr (k := 6) (i := 0) (se_var rfl (i := 1)) (hC.sc 6 (by decide)) hs_Fewest_choice) (sa_cons (se_attr (k := 6) (i := 2) (se_var rfl (i := 1)) (hC.sc 6 (by decide)) hs_Fewest_sure) (sa_cons (se_newT0 hcw rfl) (sa_nil rfl))))) (sa_cons (se_var rfl (i := 4)) (sa_cons (se_var rfl (i := 0)) (sa_nil rfl))) (hC.sc 6 (by decide)) hm_Fewest_shows G_Fewest_shows (hr.mono (by decide)) tk_def)) (sw_or1 (st_val (se_meth (k := 7) (se_make (kc := 7) (ad := 0) mk_Hopeless G_Hopeless_init.1 G_Hopeless_init.2 (hr.mono (by decide)) h_Hopeless tk_def (sa_cons (se_attr (k := 6) (i := 1) (se_var rfl (i := 1)) (hC.sc 6 (by decide)) hs_Fewest_doubts) (sa_nil rfl))) (sa_cons (se_var rfl (i := 4)) (sa_cons (se_var rfl (i := 0)) (sa_nil rfl))) (hC.sc 7 (by decide)) hm_Hopeless_shows G_Hopeless_shows (hr.mono (by decide)) tk_def))))) (sss_one (ss_ret (se_bl rfl))) (sss_nil rfl))
    (sss_cons (ss_set (i := 2) (se_makeD (kc := 2) mk_Plan G_Plan_init.1 (dfl_Plan_init G_Plan_init.2).choose_spec.2 (dfl_Plan_init G_Plan_init.2).choose_spec.1 (fun _ => (.cons (.int _) .nil)) (hr.mono (by decide)) h_Plan tk_def (sa_cons (se_makeK (kc := 1) mk_Way G_Way_init.1 (kb_Way_init_0 G_Way_init.2) kv_Way_init_0 (hr.mono (by decide)) h_Way tk_def (sk_nil rfl)) (sa_cons (se_tup (sa_cons (se_str rfl) (sa_nil rfl))) (sa_nil rfl)))) sc.nd)
    (sss_cons (ss_if (SW.st (sw_or (st_ne hu (SE.sb (se_attr (k := 6) (i := 0) (se_call G_fewest (hr.mono (by decide)) hg_fewest tk_def (sa_cons (se_var rfl (i := 2)) (sa_cons (se_var rfl (i := 0)) (sa_nil rfl)))) (hC.sc 6 (by decide)) hs_Fewest_choice)) (SE.sb (se_tup (sa_nil rfl)))) (sw_or (st_neT hcw hu (SE.sb (se_attr (k := 6) (i := 1) (se_call G_fewest (hr.mono (by decide)) hg_fewest tk_def (sa_cons (se_var rfl (i := 2)) (sa_cons (se_var rfl (i := 0)) (sa_nil rfl)))) (hC.sc 6 (by decide)) hs_Fewest_doubts)) (SE.sb (se_newT0 hcw rfl))) (sw_or1 (st_ne hu (SE.sb (se_call G_fewest_size (hr.mono (by decide)) hg_fewest_size tk_def (sa_cons (se_makeD (kc := 2) mk_Plan G_Plan_init.1 (dfl_Plan_init G_Plan_init.2).choose_spec.2 (dfl_Plan_init G_Plan_init.2).choose_spec.1 (fun _ => (.cons (.int _) .nil)) (hr.mono (by decide)) h_Plan tk_def (sa_cons (se_makeK (kc := 1) mk_Way G_Way_init.1 (kb_Way_init_0 G_Way_init.2) kv_Way_init_0 (hr.mono (by decide)) h_Way tk_def (sk_nil rfl)) (sa_cons (se_tup (sa_cons (se_str rfl) (sa_nil rfl))) (sa_nil rfl)))) (sa_cons (se_var rfl (i := 0)) (sa_nil rfl))))) (SE.sb (se_int rfl))))))) (sss_one (ss_ret (se_bl rfl))) (sss_nil rfl))
    (sss_cons (ss_set (i := 3) (se_cmetS (kc := 0) h_Steps hcm_Steps_of G_Steps_of (hr.mono (by decide)) tk_def (sa_cons (se_tup (sa_cons (se_str rfl) (sa_cons (se_tup (sa_nil rfl)) (sa_nil rfl)))) (sa_cons (se_tup (sa_cons (se_str rfl) (sa_cons (se_tup (sa_nil rfl)) (sa_nil rfl)))) (sa_cons (se_tup (sa_cons (se_non rfl) (sa_cons (se_tup (sa_cons (se_tup (sa_cons (se_str rfl) (sa_cons (se_int rfl) (sa_nil rfl)))) (sa_cons (se_tup (sa_cons (se_str rfl) (sa_cons (se_int rfl) (sa_nil rfl)))) (sa_nil rfl)))) (sa_nil rfl)))) (sa_nil rfl))))) sc.nd)
    (sss_cons (ss_if (st_ne hu (SE.sb (se_ix (SE.sb (se_prop (k := 0) (se_call G_labelled (hr.mono (by decide)) hg_labelled tk_def (sa_cons (se_var rfl (i := 3)) (sa_cons (se_tup (sa_cons (se_tup (sa_cons (se_int rfl) (sa_cons (se_int rfl) (sa_nil rfl)))) (sa_nil rfl))) (sa_nil rfl)))) (hC.sc 0 (by decide)) hp_Steps_rows G_Steps_rows (hr.mono (by decide)))) (SE.sb (se_int rfl)))) (SE.sb (se_tup (sa_cons (se_non rfl) (sa_cons (se_tup (sa_cons (se_tup (sa_cons (se_str rfl) (sa_cons (se_int rfl) (sa_nil rfl)))) (sa_cons (se_tup (sa_cons (se_str rfl) (sa_cons (se_str rfl) (sa_nil rfl)))) (sa_nil rfl)))) (sa_nil rfl)))))) (sss_one (ss_ret (se_bl rfl))) (sss_nil rfl))
    (sss_one (ss_ret (se_iso hC (sab_cons (SE.sb (se_call G_fewest (hr.mono (by decide)) hg_fewest tk_def (sa_cons (se_makeD (kc := 2) mk_Plan G_Plan_init.1 (dfl_Plan_init G_Plan_init.2).choose_spec.2 (dfl_Plan_init G_Plan_init.2).choose_spec.1 (fun _ => (.cons (.int _) .nil)) (hr.mono (by decide)) h_Plan tk_def (sa_cons (se_makeK (kc := 1) mk_Way G_Way_init.1 (kb_Way_init_0 G_Way_init.2) kv_Way_init_0 (hr.mono (by decide)) h_Way tk_def (sk_nil rfl)) (sa_cons (se_tup (sa_cons (se_str rfl) (sa_nil rfl))) (sa_nil rfl)))) (sa_cons (se_var rfl (i := 3)) (sa_nil rfl))))) (sab_cons (SE.sb (se_glob (v := .ref (c.cls 7)) rfl (by rfl) h_Hopeless rfl (fun _ => .cls _))) (sab_nil rfl))) h_isinstance)))))))))))))))⟩
theorem sc_law : FnScope ["_law_script", "_law_part"] ["_law_script"] (defScope (top 89)) := ⟨rfl, rfl, rfl, by decide +kernel, rfl, by decide +kernel, by decide +kernel⟩
theorem F_law (T : Fc c w mg) : ∃ ad fd, mg "law" = some (.ref ad) ∧ (∀ (s : Shared) (v : Value), BindsTo s fd ⟨[v], []⟩ [("_law_script", v)]) ∧ ∀ base : Heap, FnOk P w c.K mg base (L2.CX P w) 14 ad fd ["_law_script"] (PromF c 1 m_law) := by
  obtain ⟨ad, fd, hmg, F⟩ := T.f_law
  have hb := FunD.bindsA (ps := ["_law_script"]) F fun _ _ _ _ _ _ us hl => match us, hl with | [_], _ => rfl
  refine ⟨ad, fd, hmg, fun s v => hb s [v] rfl, fun base => ?_⟩
  have h_sum := T.g_sum
  have h_abs := T.g_abs
  have h_int := T.g_int
  have hC := T.C
  obtain ⟨_, hg__law_edits_right, G__law_edits_right⟩ := F__law_edits_right (P := P) (base := base) T
  obtain ⟨_, hg__law_sure_right, G__law_sure_right⟩ := F__law_sure_right (P := P) (base := base) T
  obtain ⟨_, hg__law_labels_right, G__law_labels_right⟩ := F__law_labels_right (P := P) (base := base) T
  exact fnOk_mk (k := 13) F sc_law (fun cdv A outer s H E hr => by
    have sc := sc_law
    have hu := hr.units
    have hu1 := hu_of hr
    exact (sss_cons (ss_set (i := 1) (se_mod (SE.sb (se_toInt (sab_cons (SE.sb (se_abs (sab_cons (SE.sb (se_sum (sab_cons (SE.sb (SN.se (sn_slice (sb_var rfl (i := 0)) (so_none rfl) (so_some (SE.sb (se_int rfl)))))) (sab_nil rfl)) h_sum)) (sab_nil rfl)) h_abs)) (sab_nil rfl)) h_int)) (SE.sb (se_int rfl))) sc.nd)
    (sss_cons (ss_if (st_eq hu (sb_var rfl (i := 1)) (SE.sb (se_int rfl))) (sss_one (ss_ret (se_call0 G__law_edits_right rfl (hr.mono (by decide)) hg__law_edits_right tk_def))) (sss_nil rfl))
    (sss_one (ss_ret (se_if (st_eq hu (sb_var rfl (i := 1)) (SE.sb (se_int rfl))) (se_call0 G__law_sure_right rfl (hr.mono (by decide)) hg__law_sure_right tk_def) (se_call0 G__law_labels_right rfl (hr.mono (by decide)) hg__law_labels_right tk_def)))))))
end
end Wk

/-! text: Sim19 -/
set_option Elab.async false
set_option linter.all false
set_option maxRecDepth 100000
set_option maxHeartbeats 1000000
namespace Sm
open PySem PySem.Spec PyProof.Rows L2
/-! ### what the head looks at -/
inductive At where
  | glo (x : Str)
  | meth (C m : Str)
  | prop (C m : Str)
  | stat (C m : Str)
  | cmet (C m : Str)
def pAd (K : PySem.W.Frag) (C m : Str) : Addr := match PySem.W.findIn K (.ref (He.ga K C)) m with
  | some (some (.ref p)) => p
  | _ => 0
def gAd (K : PySem.W.Frag) (C m : Str) : Addr := match PySem.W.recIn K (pAd K C m) "property" with
  | some (.ref g :: _) => g
  | _ => 0
def At.ad (K : PySem.W.Frag) : At → Addr
  | .glo x => He.ga K x
  | .meth C m => He.ma K (He.ga K C) m
  | .prop C m => gAd K C m
  | .stat C m => He5.wf K (He.ga K C) "staticmethod" m
  | .cmet C m => He5.wf K (He.ga K C) "classmethod" m
/-- the tables with their names -/
def tbs (K : PySem.W.Frag) (tq : List (At × Str)) : List (Addr × Str) := tq.map fun t => (tbA K (t.1.ad K), lamQ t.2)
/-- no two tables at one place -/
def tbsB (K : PySem.W.Frag) (tq : List (At × Str)) : Bool := tq.all fun t => tq.all fun u => !decide (tbA K (t.1.ad K) = tbA K (u.1.ad K)) || decide (t.2 = u.2)
def fnA (K : PySem.W.Frag) (a : Addr) : He.FnW := match K.lookup a with
  | some ⟨_, _, .func fd, _⟩ => some (fd.name, fd.qualname, fd.params, fd.body, fd.scope, fd.globals, fd.closure.map (fun p => (p.1, 0)), fd.builtins)
  | _ => none
structure DS where
  at_ : At
  name : Str
  qual : Str
  st : Stmt
  kwd : List (Str × He.Dv) := []
  clo : List Str := []
def DS.val (d : DS) : He.FnW := some (d.name, d.qual, defArgs d.st, .stmts (defBody d.st), defScope d.st, mainGlobals, d.clo.map (fun x => (x, 0)), builtinsNs)
def DS.kws (K : PySem.W.Frag) (d : DS) : List (Str × V) := d.kwd.map fun q => (q.1, q.2.v K)
def DS.ok (K : PySem.W.Frag) (d : DS) : Bool := PySem.W.keepIn K (.ref (d.at_.ad K)) && (match K.lookup (d.at_.ad K) with
  | some ⟨_, _, .func fd, _⟩ => PySem.W.codeIn K fd.code d.qual && (He.dflB K fd.defaults [] && He.kwdB K fd.kwdefaults (d.kws K))
  | _ => false)
theorem DS.look {K : PySem.W.Frag} {d : DS} (e : fnA K (d.at_.ad K) = d.val) (c : d.ok K = true) : ∃ oc od dV kV doc pm an cdv ct osl cl, K.lookup (d.at_.ad K) = some ⟨oc, od, .func (PySem.W.fnX d.name d.qual (defArgs d.st) (defBody d.st) (defScope d.st) cl dV kV doc pm an cdv ct), osl⟩ ∧
    cl.map (fun p => (p.1, 0)) = d.clo.map (fun x => (x, 0)) ∧ PySem.W.codeIn K cdv d.qual = true ∧ DflV K dV [] ∧ KwdV K kV (d.kws K) ∧ PySem.W.keepIn K (.ref (d.at_.ad K)) = true := by
  obtain ⟨kp, c2⟩ := He.ba c
  unfold fnA at e
  cases q : K.lookup (d.at_.ad K) with
  | none =>
    rw [q] at c2
    cases c2
  | some o =>
    obtain ⟨oc, od, dt, osl⟩ := o
    rw [q] at c2 e
    cases dt with
    | func fd =>
      obtain ⟨n1, n2, n3, n4, n5, n6, n7, n8, n9, n10, n11, n12, n13, n14, n15⟩ := fd
      have e2 : (some (n1, n2, n3, n4, n5, n6, n7.map (fun p => (p.1, 0)), n15) : He.FnW) = some (d.name, d.qual, defArgs d.st, .stmts (defBody d.st), defScope d.st, mainGlobals, d.clo.map (fun x => (x, 0)), builtinsNs) := e
      simp only [Option.some.injEq, Prod.mk.injEq] at e2
      obtain ⟨h1, h2, h3, h4, h5, h6, h7, h8⟩ := e2
      subst h1 h2 h3 h4 h5 h6 h8
      have c3 : (PySem.W.codeIn K n13 d.qual && (He.dflB K n8 [] && He.kwdB K n9 (d.kws K))) = true := c2
      obtain ⟨k1, k2⟩ := He.ba c3
      obtain ⟨k3, k4⟩ := He.ba k2
      exact ⟨oc, od, n8, n9, n10, n11, n12, n13, n14, osl, n7, rfl, h7, k1, He.dflB_ok k3, He.kwdB_ok k4, kp⟩
    | _ => cases c2
theorem DS.funD {K : PySem.W.Frag} {d : DS} (e : fnA K (d.at_.ad K) = d.val) (c : d.ok K = true) (hc : d.clo = []) : ∃ fd, FunD K d.name d.qual (defArgs d.st) (defBody d.st) (defScope d.st) [] (d.kws K) (d.at_.ad K) fd := by
  obtain ⟨oc, od, dV, kV, doc, pm, an, cdv, ct, osl, cl, lk, hcl, h1, h2, h3, kp⟩ := DS.look e c
  rw [hc] at hcl
  cases cl with
  | nil => exact ⟨_, ⟨oc, od, dV, kV, doc, pm, an, cdv, ct, osl, rfl, lk, h1, h2, h3⟩, kp⟩
  | cons p r => simp at hcl
/-! facts by name -/
inductive Fx where
  | free (x : Str)
  | glo (x : Str)
  | int (x : Str) (i : Int)
  | strs (x : Str) (ys : List Str)
  | cls (x : Str)
  | slot (C f : Str) (i : Nat)
  | prop (C f : Str)
  | meth (C m : Str)
  | mk (C : Str)
  | ne (C : Str)
  | fi (C m : Str)
  | exc (x : Str)
  | exm (x y : Str) (b : Bool)
  | sf (C : Str)
  | sm (C m : Str)
  | cm (C m : Str)
  | tu (tq : List (At × Str))
  | xi (C f file : Str)
  | xf (C f : Str)
  | cst (x : Str) (d : D)
  | bt (C : Str) (op : Operator) (T : String)
  | gi (C m : Str)
def eqS (a b : Option (Option Value)) : Bool := decide (a = b)
def relS : List Str → List Value → Bool
  | [], [] => true
  | y :: ys, .str z _ :: vs => decide (y = z) && relS ys vs
  | _, _ => false
theorem relS_ok : ∀ {ys : List Str} {vs : List Value}, relS ys vs = true → Vals (ys.map V.str) vs
  | [], [], _ => .nil
  | [], _ :: _, h => by cases h
  | y :: ys, [], h => by cases h
  | y :: ys, v :: vs, h => by
    cases v with
    | str z t =>
      obtain ⟨h1, h2⟩ := He.ba (show (decide (y = z) && relS ys vs) = true from h)
      have e := of_decide_eq_true h1
      subst e
      exact .cons ⟨t, rfl⟩ (relS_ok h2)
    | _ => cases h
/-- an own class over ValueError that gives its instances a dict -/
def oexB (K : PySem.W.Frag) (C : Addr) : Bool := match K.lookup C with
  | some ⟨.type "type", _, .cls cd, sl⟩ => (match cd.mro, sl.toList with
    | .ref D :: bm, [_, _, _, _, some (.builtin n), _] => decide (D = C) && (decide (n = "ValueError.__new__") && (!cd.hasDel && (cd.hasDict && PySem.HandSPX.refsVE bm)))
    | _, _ => false)
  | _ => false
/-- the code object at fd names this file -/
def fileB (K : PySem.W.Frag) (v : Value) (file : Str) : Bool := match v with
  | .ref a => (match K.lookup a with
    | some ⟨_, _, .fields vs, _⟩ => (match (vs[2]? : Option Value) with
      | some (.str g _) => decide (g = file)
      | _ => false)
    | _ => false)
  | _ => false
def cellB (K : PySem.W.Frag) (fa C : Addr) (file : Str) : Bool := match K.lookup fa with
  | some ⟨_, _, .func fd, _⟩ => fileB K fd.code file && (match fd.closure with
    | [(_, cc)] => (match K.lookup cc with
      | some ⟨_, _, .cell (some (.ref D)), _⟩ => decide (D = C)
      | _ => false)
    | _ => false)
  | _ => false
def Fx.ok (K : PySem.W.Frag) : Fx → Bool
  | .free x => eqS (PySem.W.nsIn K mainGlobals x) (some none)
  | .glo x => eqS (PySem.W.nsIn K mainGlobals x) (some (some (.ref (He.ga K x))))
  | .int x i => (match PySem.W.nsIn K mainGlobals x with
    | some (some (.int j _)) => decide (j = i)
    | _ => false)
  | .strs x ys => eqS (PySem.W.nsIn K mainGlobals x) (some (some (.ref (He.ga K x)))) && (match K.lookup (He.ga K x) with
    | some ⟨.type c, none, .seq its _, _⟩ => decide (c = "tuple") && (decide (its.size ≤ sizeLine) && relS ys its.toList)
    | _ => false)
  | .cls x => eqS (PySem.W.nsIn K mainGlobals x) (some (some (.ref (He.ga K x)))) && (PySem.W.plainGet K (He.ga K x) Str.empty && (PySem.W.isClsIn K (He.ga K x) && (PySem.W.plainOver K (He.ga K x) && (eqS (PySem.W.findIn K (.ref (He.ga K x)) "__setattr__") (some (some (.builtin "object.__setattr__"))) &&
      (eqS (PySem.W.findIn K (.ref (He.ga K x)) "__class__") (some (some (.builtin "object.__class__"))) && (eqS (PySem.W.specialIn K (.builtin "object.__class__") "__get__") (some (some (.builtin "getset_descriptor.__get__"))) &&
      (decide (PySem.W.takesIn K (.builtin "object.__class__") = some true) && decide (PySem.W.mroIn K (He.ga K x) (.type "object") = some true))))))))
  | .slot C f i => eqS (PySem.W.findIn K (.ref (He.ga K C)) f) (some (some (.ref (pAd K C f)))) && (eqS (PySem.W.specialIn K (.ref (pAd K C f)) "__get__") (some (some (.builtin "member_descriptor.__get__"))) &&
      (decide (PySem.W.takesIn K (.ref (pAd K C f)) = some true) && (decide (PySem.W.typeIn K (.ref (pAd K C f)) = some (.type "member_descriptor")) && (decide (PySem.W.slotIn K (pAd K C f) (He.ga K C) = some i) && decide (i < 1000)))))
  | .prop C f => eqS (PySem.W.findIn K (.ref (He.ga K C)) f) (some (some (.ref (pAd K C f)))) && (eqS (PySem.W.specialIn K (.ref (pAd K C f)) "__get__") (some (some (.builtin "property.__get__"))) &&
      (decide (PySem.W.takesIn K (.ref (pAd K C f)) = some true) && (match PySem.W.recIn K (pAd K C f) "property" with
        | some (.ref g :: _) => decide (g = gAd K C f)
        | _ => false)))
  | .meth C m => eqS (PySem.W.findIn K (.ref (He.ga K C)) m) (some (some (.ref (He.ma K (He.ga K C) m)))) && (PySem.W.isFn K (.ref (He.ma K (He.ga K C) m)) && PySem.W.keepIn K (.ref (He.ma K (He.ga K C) m)))
  | .mk C => PySem.W.makesIn K (He.ga K C) && (eqS (PySem.W.findIn K (.ref (He.ga K C)) "__init__") (some (some (.ref (He.ma K (He.ga K C) "__init__")))) && (PySem.W.isFn K (.ref (He.ma K (He.ga K C) "__init__")) && PySem.W.keepIn K (.ref (He.ga K C))))
  | .ne C => eqS (PySem.W.findIn K (.ref (He.ga K C)) "__ne__") (some (some (.builtin "object.__ne__")))
  | .fi C m => PySem.W.fnIn K (He.ma K (He.ga K C) m)
  | .exc x => eqS (PySem.W.nsIn K mainGlobals x) (some (some (.ref (He.ga K x)))) && (PySem.W.excIn K (He.ga K x) [.type "ValueError", .type "Exception", .type "BaseException", .type "object"] "ValueError.__new__" && (PySem.W.keepIn K (.ref (He.ga K x)) &&
      (decide (PySem.W.subIn K (.ref (He.ga K x)) (.type "BaseException") = some true) && decide (PySem.W.typeIn K (.ref (He.ga K x)) = some (.type "type")))))
  | .exm x y b => decide (PySem.W.exmOne K (.ref (He.ga K x)) (.ref (He.ga K y)) = some b)
  | .sf C => PySem.W.selfFirst K (He.ga K C)
  | .sm C m => He5.wrapB K (He.ga K C) "staticmethod" "staticmethod.__get__" m && (PySem.W.readsIn K (He.ga K C) (.type "type") && eqS (PySem.W.specialIn K (.ref (He.ga K C)) "__getattribute__") (some (some (.builtin "type.__getattribute__"))))
  | .cm C m => He5.wrapB K (He.ga K C) "classmethod" "classmethod.__get__" m && (PySem.W.fnIn K (He5.wf K (He.ga K C) "classmethod" m) && (PySem.W.readsIn K (He.ga K C) (.type "type") && eqS (PySem.W.specialIn K (.ref (He.ga K C)) "__getattribute__") (some (some (.builtin "type.__getattribute__")))))
  | .tu tq => tbsB K tq
  | .xi C f file => eqS (PySem.W.nsIn K mainGlobals C) (some (some (.ref (He.ga K C)))) && (oexB K (He.ga K C) && (eqS (PySem.W.findIn K (.ref (He.ga K C)) "__setattr__") (some (some (.builtin "object.__setattr__"))) && (decide (PySem.W.subIn K (.ref (He.ga K C)) (.type "BaseException") = some true) &&
      (decide (PySem.W.typeIn K (.ref (He.ga K C)) = some (.type "type")) && (PySem.W.keepIn K (.ref (He.ga K C)) && (eqS (PySem.W.ks_superIn K (He.ga K C) (He.ga K C) "__init__") (some (some (.builtin "ValueError.__init__"))) &&
      (PySem.W.excInitIn K (He.ga K C) [.type "ValueError", .type "Exception", .type "BaseException", .type "object"] "ValueError.__new__" && (decide (PySem.W.subIn K (.ref (He.ga K C)) (.type "ValueError") = some true) && (decide (PySem.W.mroIn K (He.ga K C) (.ref (He.ga K C)) = some true) &&
      (eqS (PySem.W.findIn K (.ref (He.ga K C)) f) (some none) && (eqS (PySem.W.nsIn K cStatics "thirdparty.any") (some none) && (eqS (PySem.W.nsIn K mainGlobals "super") (some none) && (eqS (PySem.W.findIn K (.ref (He.ga K C)) "__init__") (some (some (.ref (He.ma K (He.ga K C) "__init__")))) &&
      (decide (PySem.W.typeIn K (.ref (He.ma K (He.ga K C) "__init__")) = some (.type "function")) && cellB K (He.ma K (He.ga K C) "__init__") (He.ga K C) file))))))))))))))
  | .xf C f => xfB K (He.ga K C) && eqS (PySem.W.findIn K (.ref (He.ga K C)) f) (some none)
  | .cst x d => (match PySem.W.nsIn K mainGlobals x with
    | some (some v) => cstB K 4 v d
    | _ => false)
  | .bt C op T => PySem.W.selfFirst K (He.ga K C) && (eqS (PySem.W.findIn K (.ref (He.ga K C)) (dunderR op.info.2)) (some none) && ((PySem.W.findIn K (.type T) (PySem.dunder op.info.2)).isSome && ((PySem.W.findIn K (.type T) (dunderR op.info.2)).isSome && decide (PySem.W.subIn K (.type T) (.ref (He.ga K C)) = some false))))
  | .gi C m => eqS (PySem.W.findIn K (.ref (He.ga K C)) m) (some (some (.ref (He.ma K (He.ga K C) m)))) && PySem.W.fnIn K (He.ma K (He.ga K C) m)
/-- the def of a staticmethod -/
def sAd (K : PySem.W.Frag) (C m : Str) : Addr := He5.wf K (He.ga K C) "staticmethod" m
section
variable {K : PySem.W.Frag} {h : Heap} {mg : Str → Option Value}
theorem eqS_ok {a b : Option (Option Value)} (h : eqS a b = true) : a = b := of_decide_eq_true h
theorem fx_free (X : K.In h) (G : h.Ns mainGlobals mg) {x : Str} (c : (Fx.free x).ok K = true) : mg x = none := PySem.W.mg_none_of X G (eqS_ok c)
theorem fx_glo (X : K.In h) (G : h.Ns mainGlobals mg) {x : Str} (c : (Fx.glo x).ok K = true) : mg x = some (.ref (He.ga K x)) := PySem.W.mg_of X G (eqS_ok c)
theorem fx_int (X : K.In h) (G : h.Ns mainGlobals mg) {x : Str} {i : Int} (c : (Fx.int x i).ok K = true) : ∃ u, mg x = some u ∧ RelV (.int i) u := by
  obtain ⟨t, e⟩ := He.int_ok X G (i := i) (x := x) c
  exact ⟨_, e, t, rfl⟩
theorem fx_strs (X : K.In h) (G : h.Ns mainGlobals mg) {x : Str} {ys : List Str} (c : (Fx.strs x ys).ok K = true) : ∃ ad, mg x = some (.ref ad) ∧ KTs K ad ys := by
  obtain ⟨c1, c2⟩ := He.ba c
  refine ⟨_, PySem.W.mg_of X G (eqS_ok c1), ?_⟩
  cases q : K.lookup (He.ga K x) with
  | none => rw [q] at c2; cases c2
  | some o =>
    obtain ⟨oc, od, dt, osl⟩ := o
    rw [q] at c2
    cases oc with
    | type cn =>
      cases od with
      | none =>
        cases dt with
        | seq its n =>
          obtain ⟨h1, h2⟩ := He.ba (show (decide (cn = "tuple") && (decide (its.size ≤ sizeLine) && relS ys its.toList)) = true from c2)
          obtain ⟨h3, h4⟩ := He.ba h2
          exact ⟨⟨_, its, n, q, congrArg Value.type (of_decide_eq_true h1), rfl, rfl, of_decide_eq_true h3, relS_ok h4⟩⟩
        | _ => cases c2
      | some d => cases dt <;> cases c2
    | _ => cases od <;> cases dt <;> cases c2
theorem fx_cls (X : K.In h) (G : h.Ns mainGlobals mg) {x : Str} (c : (Fx.cls x).ok K = true) : mg x = some (.ref (He.ga K x)) ∧ SlX.SCls K (He.ga K x) ∧ SlX.SIsi K (He.ga K x) := by
  obtain ⟨c0, c⟩ := He.ba c
  obtain ⟨c1, c⟩ := He.ba c
  obtain ⟨c2, c⟩ := He.ba c
  obtain ⟨c3, c⟩ := He.ba c
  obtain ⟨c4, c⟩ := He.ba c
  obtain ⟨c5, c⟩ := He.ba c
  obtain ⟨c6, c⟩ := He.ba c
  obtain ⟨c7, c8⟩ := He.ba c
  exact ⟨PySem.W.mg_of X G (eqS_ok c0), ⟨c1, c2, c3, eqS_ok c4⟩, ⟨eqS_ok c5, eqS_ok c6, of_decide_eq_true c7, of_decide_eq_true c8⟩⟩
theorem fx_slot {C f : Str} {i : Nat} (c : (Fx.slot C f i).ok K = true) : ∃ ad, SlX.Slot1 K (He.ga K C) f ad i := by
  obtain ⟨c1, c⟩ := He.ba c
  obtain ⟨c2, c⟩ := He.ba c
  obtain ⟨c3, c⟩ := He.ba c
  obtain ⟨c4, c⟩ := He.ba c
  obtain ⟨c5, c6⟩ := He.ba c
  exact ⟨_, eqS_ok c1, eqS_ok c2, of_decide_eq_true c3, of_decide_eq_true c4, of_decide_eq_true c5, of_decide_eq_true c6⟩
theorem fx_prop {C f : Str} (c : (Fx.prop C f).ok K = true) : Prp K (He.ga K C) f (pAd K C f) (gAd K C f) := by
  obtain ⟨c1, c⟩ := He.ba c
  obtain ⟨c2, c⟩ := He.ba c
  obtain ⟨c3, c4⟩ := He.ba c
  refine ⟨eqS_ok c1, eqS_ok c2, of_decide_eq_true c3, ?_⟩
  cases q : PySem.W.recIn K (pAd K C f) "property" with
  | none => rw [q] at c4; cases c4
  | some l =>
    rw [q] at c4
    cases l with
    | nil => cases c4
    | cons v rest =>
      cases v with
      | ref g =>
        have e : g = gAd K C f := of_decide_eq_true c4
        exact ⟨rest, by rw [← e]⟩
      | _ => cases c4
theorem fx_meth {C m : Str} (c : (Fx.meth C m).ok K = true) : Meth K (He.ga K C) m (He.ma K (He.ga K C) m) := by
  obtain ⟨c1, c⟩ := He.ba c
  obtain ⟨c2, c3⟩ := He.ba c
  exact ⟨eqS_ok c1, c2, c3⟩
theorem fx_callo {C : Str} (c : (Fx.meth C "__call__").ok K = true) (c2 : (Fx.fi C "__call__").ok K = true) : ∃ g, StX.CallO K (He.ga K C) g :=
  ⟨_, (fx_meth c).at_, (fx_meth c).fn, c2⟩
theorem fx_exc (X : K.In h) (G : h.Ns mainGlobals mg) {x : Str} (c : (Fx.exc x).ok K = true) : mg x = some (.ref (He.ga K x)) ∧ ExC K (He.ga K x) := by
  obtain ⟨c0, c⟩ := He.ba c
  obtain ⟨c1, c⟩ := He.ba c
  obtain ⟨c2, c⟩ := He.ba c
  obtain ⟨c3, c4⟩ := He.ba c
  exact ⟨PySem.W.mg_of X G (eqS_ok c0), c1, c2, of_decide_eq_true c3, of_decide_eq_true c4⟩
theorem fx_gi {C m : Str} (c : (Fx.gi C m).ok K = true) : ∃ g, PySem.W.findIn K (.ref (He.ga K C)) m = some (some (.ref g)) ∧ PySem.W.fnIn K g = true := by
  obtain ⟨c1, c2⟩ := He.ba c
  exact ⟨_, eqS_ok c1, c2⟩
theorem fx_sm {C m : Str} (c : (Fx.sm C m).ok K = true) : ∃ p, SMet K (He.ga K C) m p (sAd K C m) := by
  obtain ⟨c1, c⟩ := He.ba c
  obtain ⟨c2, c3⟩ := He.ba c
  obtain ⟨h1, h2⟩ := He5.wrapB_ok c1
  exact ⟨_, c2, eqS_ok c3, h1, h2⟩
theorem fx_cm {C m : Str} (c : (Fx.cm C m).ok K = true) : ∃ p, CMetX K (He.ga K C) m p (He5.wf K (He.ga K C) "classmethod" m) := by
  obtain ⟨c1, c⟩ := He.ba c
  obtain ⟨c2, c⟩ := He.ba c
  obtain ⟨c3, c4⟩ := He.ba c
  exact ⟨_, He5.cmet_of c1 c2, ⟨c3, eqS_ok c4⟩⟩
theorem fx_mk {C : Str} (c : (Fx.mk C).ok K = true) : Mk K (He.ga K C) (He.ma K (He.ga K C) "__init__") := by
  obtain ⟨c1, c⟩ := He.ba c
  obtain ⟨c2, c⟩ := He.ba c
  obtain ⟨c3, c4⟩ := He.ba c
  exact ⟨c1, eqS_ok c2, c3, c4⟩
end
/-! the classes among each other -/
def clsA (K : PySem.W.Frag) (cs : List Str) (k : Nat) : Addr := He.ga K (cs.getD k "")
/-- the classes stand ahead of "", the exceptions behind it -/
def nCls : List Str → Nat
  | [] => 0
  | x :: r => bif decide (x = "") then 0 else nCls r + 1
def cfB (K : PySem.W.Frag) (cs : List Str) : Bool := ((List.range (nCls cs)).all fun k => (Fx.cls (cs.getD k "")).ok K) && (((List.range (nCls cs)).all fun k => (List.range (nCls cs)).all fun j => decide (PySem.W.kitOne K (.ref (clsA K cs k)) (.ref (clsA K cs j)) = some (decide (k = j)))) &&
  ((List.range (nCls cs)).all fun j => ["NoneType", "bool", "int", "str", "tuple", "list", "dict"].all fun a => decide (PySem.W.kitOne K (.type a) (.ref (clsA K cs j)) = some false)))
theorem cf_of {K : PySem.W.Frag} {h : Heap} {mg : Str → Option Value} (X : K.In h) (G : h.Ns mainGlobals mg) {cs : List Str} {tb : List (Addr × Str)} {w : World} (b : cfB K cs = true) : CF ⟨K, clsA K cs, tb, w⟩ (nCls cs) := by
  obtain ⟨b1, b2⟩ := He.ba b
  obtain ⟨b3, b4⟩ := He.ba b2
  have g1 : ∀ k, k < nCls cs → (Fx.cls (cs.getD k "")).ok K = true := fun k hk => List.all_eq_true.mp b1 k (List.mem_range.mpr hk)
  refine ⟨fun k hk => (fx_cls X G (g1 k hk)).2.1, fun k hk => (fx_cls X G (g1 k hk)).2.2, fun k j hk hj => ?_, fun j hj a ha => ?_⟩
  · exact of_decide_eq_true (List.all_eq_true.mp (List.all_eq_true.mp b3 k (List.mem_range.mpr hk)) j (List.mem_range.mpr hj))
  · exact of_decide_eq_true (List.all_eq_true.mp (List.all_eq_true.mp b4 j (List.mem_range.mpr hj)) a ha)
theorem cls_mg {K : PySem.W.Frag} {h : Heap} {mg : Str → Option Value} (X : K.In h) (G : h.Ns mainGlobals mg) {cs : List Str} (b : cfB K cs = true) {k : Nat} (hk : k < nCls cs) : mg (cs.getD k "") = some (.ref (clsA K cs k)) := by
  obtain ⟨b1, _⟩ := He.ba b
  exact (fx_cls X G (List.all_eq_true.mp b1 k (List.mem_range.mpr hk))).1

/-! what the module's names reach, by a mask of what is known -/
def addAs {α : Type} : List Addr → Nat → List Addr → (Nat → List Addr → α) → α
  | [], m, acc, k => k m acc
  | a :: r, m, acc, k => match Nat.testBit m a with
    | true => addAs r m acc k
    | false => HandSHeadRun.frNat (Nat.lor m (Nat.shiftLeft 1 a)) fun m => addAs r m (a :: acc) k
def levAs {α : Type} (g : Addr → Option Obj) : List Addr → Nat → List Addr → (Nat → List Addr → α) → α
  | [], m, acc, k => k m acc
  | a :: r, m, acc, k => match g a with
    | some o => addAs (He.refsD o) m acc fun m acc => levAs g r m acc k
    | none => levAs g r m acc k
def runAs (g : Addr → Option Obj) : Nat → List Addr → Nat → List Addr → List Addr
  | 0, _, _, all => all
  | n + 1, fr, m, all => levAs g fr m [] fun m new => runAs g n new m (all ++ new)
def adsB (g : Addr → Option Obj) (n : Nat) : List Addr := cStatics :: runAs g n [mainGlobals] (Nat.shiftLeft 1 mainGlobals) [mainGlobals]
/-! the hook -/
abbrev Tb : Type := Str × List (Str × Int)
abbrev AlS : Type := (Bool × List He.FnW) × List (Option (List (Option (Str × Int))))
def tbB (K : PySem.W.Frag) (t : Tb) : Bool := eqS (PySem.W.nsIn K mainGlobals t.1) (some (some (.ref (He.ga K t.1)))) && He.valsB K (He.ga K t.1) (t.2.map fun q => (q.1, He.Dv.int q.2))
def obsS (fx : List Fx) (cs : List Str) (fn : List DS) (ts : List Tb) (K : PySem.W.Frag) : AlS := (((fx.all fun f => f.ok K) && (cfB K cs && ((fn.all fun d => d.ok K) && ts.all fun t => tbB K t)), fn.map fun d => fnA K (d.at_.ad K)), ts.map fun t => He.dicW K (He.ga K t.1))
def valS (fn : List DS) (ts : List Tb) (w : World) : AlS := ((true, fn.map DS.val), ts.map fun t => some (He.keysIn w.params (t.2.map (·.1))))
def hookS (n : Nat) (fx : List Fx) (cs : List Str) (fn : List DS) (ts : List Tb) : PySem.W.Hook where
  α := AlS
  obs := fun s => obsS fx cs fn ts (He.frT s.heap.get? (adsB s.heap.get? n))
  val := fun w => valS fn ts w
  says := fun w h => ∃ K : PySem.W.Frag, K.In h ∧ obsS fx cs fn ts K = valS fn ts w
  of := fun _ _ e => ⟨_, He.frT_in, e⟩
  keeps := fun _ _ _ ⟨K, hK, c⟩ k => ⟨K, PySem.W.Frag.In.keeps hK k, c⟩
def obS (n : Nat) (fx : List Fx) (cs : List Str) (fn : List DS) (ts : List Tb) (g : Addr → Option Obj) : AlS := obsS fx cs fn ts (He.frT g (adsB g n))
theorem obS_eq {n : Nat} {fx : List Fx} {cs : List Str} {fn : List DS} {ts : List Tb} {g : Addr → Option Obj} {s : Shared} (h : ∀ a, g a = s.heap.get? a) : obS n fx cs fn ts g = (hookS n fx cs fn ts).obs s := by
  have e : g = s.heap.get? := funext h
  rw [e] <;> rfl
section
variable {fx : List Fx} {cs : List Str} {fn : List DS} {ts : List Tb} {K : PySem.W.Frag} {w : World}
theorem says_b (e : obsS fx cs fn ts K = valS fn ts w) : (fx.all fun f => f.ok K) = true ∧ cfB K cs = true ∧ (fn.all fun d => d.ok K) = true ∧ (ts.all fun t => tbB K t) = true := by
  have e1 : ((fx.all fun f => f.ok K) && (cfB K cs && ((fn.all fun d => d.ok K) && ts.all fun t => tbB K t))) = true := congrArg (fun z : AlS => z.1.1) e
  obtain ⟨h1, h2⟩ := He.ba e1
  obtain ⟨h3, h4⟩ := He.ba h2
  obtain ⟨h5, h6⟩ := He.ba h4
  exact ⟨h1, h3, h5, h6⟩
theorem says_fx (e : obsS fx cs fn ts K = valS fn ts w) (i : Nat) {f : Fx} (h : fx[i]? = some f := by rfl) : f.ok K = true := List.all_eq_true.mp (says_b e).1 f (List.mem_of_getElem? h)
theorem says_fn (e : obsS fx cs fn ts K = valS fn ts w) (i : Nat) {d : DS} (h : fn[i]? = some d := by rfl) (hc : d.clo = [] := by rfl) : ∃ fd, FunD K d.name d.qual (defArgs d.st) (defBody d.st) (defScope d.st) [] (d.kws K) (d.at_.ad K) fd := by
  have e1 : fn.map (fun d => fnA K (d.at_.ad K)) = fn.map DS.val := congrArg (fun z : AlS => z.1.2) e
  have e2 : (fn.map fun d => fnA K (d.at_.ad K))[i]? = (fn.map DS.val)[i]? := by rw [e1]
  rw [List.getElem?_map, List.getElem?_map, h] at e2
  exact DS.funD (Option.some.inj e2) (List.all_eq_true.mp (says_b e).2.2.1 d (List.mem_of_getElem? h)) hc
theorem keys_miss {P : Params} {z : Str} : ∀ {l : List DictEntry} {ks : List Str}, l.map He.keyOf = He.keysIn P ks → z ∉ ks → l.find? (·.key.isStr z) = none ∧ l.any (·.refKey) = false
  | [], _, _, _ => ⟨rfl, rfl⟩
  | e :: r, [], h, _ => by cases h
  | e :: r, k :: ks, h, hz => by
    have h1 : He.keyOf e :: r.map He.keyOf = some (k, PyData.keyHash P k) :: He.keysIn P ks := h
    injection h1 with h2 h3
    obtain ⟨i1, i2⟩ := keys_miss h3 fun m => hz (List.mem_cons_of_mem _ m)
    obtain ⟨hs, ky, vl⟩ := e
    cases ky with
    | str x t =>
      have h4 : (x, hs) = (k, PyData.keyHash P k) := Option.some.inj h2
      obtain ⟨h5, h6⟩ := Prod.mk.inj h4
      subst h5
      have hne : (x == z) = false := by
        cases q : (x == z) with
        | false => rfl
        | true => exact absurd (by rw [beq_iff_eq.mp q]; exact List.mem_cons_self) hz
      refine ⟨?_, ?_⟩
      · rw [List.find?_cons]
        show (match (x == z) with | true => _ | false => _) = none
        rw [hne]
        exact i1
      · rw [List.any_cons, i2, Bool.or_false]
        rfl
    | _ => cases h2
theorem dicW_miss {P : Params} {a : Addr} {ks : List Str} {z : Str} (h : He.dicW K a = some (He.keysIn P ks)) (hz : z ∉ ks) : PySem.W.nsIn K a z = some none := by
  unfold He.dicW at h
  unfold PySem.W.nsIn
  split at h
  · rename_i c es n sl hk
    rw [hk]
    split at h
    · obtain ⟨h1, h2⟩ := keys_miss (Option.some.inj h) hz
      dsimp only
      rw [h1]
      dsimp only
      rw [h2]
      rfl
    · cases h
  · cases h
theorem says_tb {cls : Nat → Addr} {tb : List (Addr × Str)} {h : Heap} {mg : Str → Option Value} (X : K.In h) (G : h.Ns mainGlobals mg) (e : obsS fx cs fn ts K = valS fn ts w) (i : Nat) {t : Tb} (hi : ts[i]? = some t := by rfl) :
    ∃ ad, mg t.1 = some (.ref ad) ∧ KDt ⟨K, cls, tb, w⟩ w ad (t.2.map fun q => (q.1, D.int q.2)) := by
  have e1 : ts.map (fun t => He.dicW K (He.ga K t.1)) = ts.map fun t => some (He.keysIn w.params (t.2.map (·.1))) := congrArg (fun z : AlS => z.2) e
  have e2 : (ts.map fun t => He.dicW K (He.ga K t.1))[i]? = (ts.map fun t => some (He.keysIn w.params (t.2.map (·.1))))[i]? := by rw [e1]
  rw [List.getElem?_map, List.getElem?_map, hi] at e2
  obtain ⟨b1, b2⟩ := He.ba (show (eqS _ _ && He.valsB K (He.ga K t.1) _) = true from List.all_eq_true.mp (says_b e).2.2.2 t (List.mem_of_getElem? hi))
  refine ⟨_, PySem.W.mg_of X G (eqS_ok b1), He.dicW_ok (Option.some.inj e2), fun q hq => ?_, fun z hz => dicW_miss (Option.some.inj e2) fun hm => ?_⟩
  rotate_left
  · obtain ⟨q, hq, e⟩ := List.mem_map.mp hm
    exact hz _ (List.mem_map.mpr ⟨q, hq, rfl⟩) e
  obtain ⟨q0, hq0, eq⟩ := List.mem_map.mp hq
  obtain ⟨u, h1, h2⟩ := He.valsB_ok b2 (q := (q0.1, He.Dv.int q0.2)) (List.mem_map.mpr ⟨q0, hq0, rfl⟩)
  subst eq
  exact ⟨u, _, h1, h2, fun Ψ => .int _⟩
end
end Sm

/-! text: Sim20 -/
set_option Elab.async false
set_option linter.all false
set_option maxRecDepth 100000
set_option maxHeartbeats 1000000
namespace Sm
open PySem PySem.Spec PyProof.Rows L2
theorem walk_ofS {l : PySem.W.OpenLaw} {n k : Nat} {q : Program} {loose : List Str} {XP : (Str → Option Value) → Heap → Prop} {YP : World → Heap → Prop} {d : DefRec} {CX : World → CXT} {x : Str}
    (hn : l.most = some n) (hn2 : n ≤ sizeLine) (hdf : d.params.defaults = []) (hr : Room k callerA)
    (F : ∀ (w : World) (mg : Str → Option Value) (fa : Addr) (h : Heap), YP w h → h.Ns mainGlobals mg → mg d.name = some (.ref fa) →
      ∃ (K : PySem.W.Frag) (fd : FuncData) (sp : Sp), K.In h ∧ (∀ (s : Shared) (u : Value), BindsTo s fd ⟨[u], []⟩ [(x, u)]) ∧
        (∀ (H : Hp) (a : Addr) (ns : List Int), ns.length ≤ n → Only H → SqL K H a (ns.map V.int) → sp [.ref a] H (fun v _ => v = .bl true) fun _ _ _ => False) ∧
        ∀ base : Heap, K.In base → base.Ns mainGlobals mg → FnOk l.prog w K mg base (CX w) k fa fd [x] sp)
    (hCX : ∀ (w : World) (H : Hp) (s : Shared) (e : Value) (s' : Shared), CX w [] H s (fun _ _ _ => False) e s' → False) :
    PySem.W.WalkO q loose XP YP l.row.toRowW d [] (fun f vs => PySem.call f vs) := by
  refine Att.attach_call hn hdf fun w s₀ s₁ mg mb fa o pm cd doc a vs ns G Y ho hd hcd hmg hobj hints hlen hg => ?_
  obtain ⟨K, fd, sp, KX, hb, hsp, hF⟩ := F w mg fa _ Y G.T.g hmg
  exact law_call KX G.T.g G.T.b G.T.builtins G.T.nolimit hg hobj hints (Nat.le_trans hlen hn2) hr hF hb (fun H hO hS => hsp H a ns hlen hO hS) fun H e s' => hCX w H s₁ e s'
theorem cx_none {P : Program} {w : World} (H : Hp) (s : Shared) (e : Value) (s' : Shared) (h : L2.CX P w [] H s (fun _ _ _ => False) e s') : False := by
  obtain ⟨_, _, _, _, _, _, _, _, _, _, _, _, z⟩ := h
  exact z
/-- the law's promise at the script -/
theorem prom_law {c : Cf} {m : List D → M D} {H : Hp} {a : Addr} {ns : List Int} {E : XK} (htb : c.tb = []) (hl : ns.length ≤ 63) (hS : SqL c.K H a (ns.map V.int)) (hp : ∃ S', m [.scr (ns.map D.int)] [] = .ok (.bl true) S') :
    PromF c 1 m [.ref a] H (fun v _ => v = .bl true) E := by
  obtain ⟨S', e⟩ := hp
  have r : Reps c ⟨H, [], []⟩ (ns.map V.int) (ns.map D.int) := by
    clear hl hS e
    induction ns with
    | nil => exact .nil
    | cons n ns ih => exact .cons (.int n) ih
  refine ⟨⟨H, [], []⟩, [], [.scr (ns.map D.int)], ⟨fun _ _ h => h, fun n p o h => by simp at h, fun p hp => by simp at hp, fun i j p q h => by simp at h, rfl, htb.symm, fun p hp => by simp at hp, fun p hp => by simp at hp, fun n o h => by simp at h⟩, .cons (.scr hS (by rw [List.length_map]; show _ ≤ 100000; omega) r) .nil, rfl, ?_⟩
  rw [e]
  intro Ψ' v H' _ _ rv
  cases rv
  rfl
end Sm

/-! text: Sim21 -/
set_option Elab.async false
set_option linter.all false
set_option maxRecDepth 100000
set_option maxHeartbeats 1000000
namespace Sm
open PySem PySem.W PySem.Calls PyProof.Rows HandSHeadRun
/-! ### the head's looks in parts: each a run of its own, for the memory's sake -/
/-- the state behind the top -/
noncomputable abbrev endR (R : PySem.W.OpenRow) (M : Nat) (w : World) (os : OsState) : Option PySem.W.SharedT := endF (stepQ (denQ tabQ) R.prog w) M R.prog w os
def LookOk (R : PySem.W.OpenRow) (q : Program) (M : Nat) (loose : List Str) (w : World) : Prop := ∀ os : OsState, (endR R M w os).map (fun s => (looksF R.prog (boot_heap w.params) s.abs, HandSHeadRun.seenQ q loose (importedModules R.prog.main.body) (fun s => xlAt q [] s && recOk R.toRowW.records s) s.abs)) = some (true, openGood q loose)
def PartOk (R : PySem.W.OpenRow) (M : Nat) (fx : List Fx) (cs : List Str) (fn : List DS) (ts : List Tb) (w : World) : Prop := ∀ os : OsState, (endR R M w os).map (fun s => obS 6 fx cs fn ts (HandSHeadRun.getT s)) = some (valS fn ts w)
theorem obsS_app {fx fx' : List Fx} {cs : List Str} {fn fn' : List DS} {ts ts' : List Tb} {K : PySem.W.Frag} {w : World} (h : obsS fx cs fn ts K = valS fn ts w) (h' : obsS fx' [] fn' ts' K = valS fn' ts' w) : obsS (fx ++ fx') cs (fn ++ fn') (ts ++ ts') K = valS (fn ++ fn') (ts ++ ts') w := by
  obtain ⟨a1, a2, a3, a4⟩ := says_b h
  obtain ⟨b1, b2, b3, b4⟩ := says_b h'
  have e1 : fn.map (fun d => fnA K (d.at_.ad K)) = fn.map DS.val := congrArg (fun z : AlS => z.1.2) h
  have e1' : fn'.map (fun d => fnA K (d.at_.ad K)) = fn'.map DS.val := congrArg (fun z : AlS => z.1.2) h'
  have e2 : ts.map (fun t => He.dicW K (He.ga K t.1)) = ts.map fun t => some (He.keysIn w.params (t.2.map (·.1))) := congrArg (fun z : AlS => z.2) h
  have e2' : ts'.map (fun t => He.dicW K (He.ga K t.1)) = ts'.map fun t => some (He.keysIn w.params (t.2.map (·.1))) := congrArg (fun z : AlS => z.2) h'
  unfold obsS valS
  rw [List.all_append, List.all_append, List.all_append, List.map_append, List.map_append, List.map_append, List.map_append, e1, e1', e2, e2', a1, a2, a3, a4, b1, b3, b4]
  rfl
theorem part_app {R : PySem.W.OpenRow} {M : Nat} {fx fx' : List Fx} {cs : List Str} {fn fn' : List DS} {ts ts' : List Tb} {w : World} (h : PartOk R M fx cs fn ts w) (h' : PartOk R M fx' [] fn' ts' w) : PartOk R M (fx ++ fx') cs (fn ++ fn') (ts ++ ts') w := fun os => by
  have z := h os
  have z' := h' os
  cases e : endR R M w os with
  | none => rw [e] at z; cases z
  | some s =>
    rw [e] at z z'
    have y : obS 6 fx cs fn ts (HandSHeadRun.getT s) = valS fn ts w := Option.some.inj z
    have y' : obS 6 fx' [] fn' ts' (HandSHeadRun.getT s) = valS fn' ts' w := Option.some.inj z'
    exact congrArg some (obsS_app y y')
theorem run_parts {R : PySem.W.OpenRow} {q : Program} {M : Nat} {loose : List Str} {fx : List Fx} {cs : List Str} {fn : List DS} {ts : List Tb} {w : World} (h : LookOk R q M loose w) (h' : PartOk R M fx cs fn ts w) :
    RunEq R q (hookS 6 fx cs fn ts) (fun s => obS 6 fx cs fn ts (HandSHeadRun.getT s)) M loose w := fun os => by
  have z := h os
  have z' := h' os
  show (endR R M w os).map _ = _
  cases e : endR R M w os with
  | none => rw [e] at z; cases z
  | some s =>
    rw [e] at z z'
    have y := Option.some.inj z
    have y' : obS 6 fx cs fn ts (HandSHeadRun.getT s) = valS fn ts w := Option.some.inj z'
    obtain ⟨y1, y2⟩ := Prod.mk.inj y
    exact congrArg some (Prod.ext y1 (Prod.ext y2 y'))
end Sm

/-! text: Sim48 -/
set_option Elab.async false
set_option linter.all false
set_option maxRecDepth 100000
set_option maxHeartbeats 1000000
namespace Sm
open PySem PySem.Spec PyProof.Rows L2 LamX
/-! ### the head where defs hold lambdas: their tables are empty, and stand outside of K -/
structure SaysL (fx : List Fx) (cs : List Str) (fn : List DS) (ts : List Tb) (tf : List At) (w : World) (h : Heap) (K : PySem.W.Frag) : Prop where
  t : obsS fx cs fn ts K = valS fn ts w
  hd : ∀ a ∈ tf, PySem.W.codeHdIn K (cdA K (a.ad K)) (tbA K (a.ad K)) = true
  out : ∀ a ∈ tf, K.lookup (tbA K (a.ad K)) = none
  empty : ∀ a ∈ tf, h.get? (tbA K (a.ad K)) = some { cls := .none, data := .fields #[] }
/-! in parts -/
/-! the end -/
end Sm

/-! text: Hd -/
set_option Elab.async false
set_option linter.all false
set_option maxRecDepth 100000
set_option maxHeartbeats 0
namespace Hd
open PySem PySem.Spec PyProof.Rows L2 Sm Wk
def nm0 : List Str := ["PointError", "BadSteps", "BadIndex", "BadSpot", "BadLabels", "BadWay", "BadEdit", "BadPlan", "BadChoice", "TooLarge", "MOST_STEPS", "MOST_POINTERS", "MOST_NUMBER", "LETTERS", "is_number", "is_label", "is_pointer", "is_step", "are_rows", "first_with", "meaning", "all_spots", "meant_at", "are_whole", "relabelled", "Steps", "check_steps", "RANKS", "KINDS", "is_edit"]
def nm1 : List Str := ["sources", "standing", "pointing", "kept", "edited", "label_of", "is_word", "Way", "way_of", "check_way", "ALL_WORDS", "MOST_MOST", "are_words", "Plan", "check_plan", "check_for", "is_free", "is_allowed", "all_allowed", "allowed", "MOST_LISTS", "Web", "check_whole", "Sure", "holds", "Astray", "answer_for", "sure", "soonest", "MOST_SPOTS"]
def nm2 : List Str := ["plain_spots", "labels_for", "after_choice", "possible", "in_order", "is_spot_pair", "labelled", "check_few", "are_doubts", "Fewest", "Hopeless", "fewest", "fewest_size", "check_edit", "origins", "astray", "_law_list", "_law_edits_right", "_law_sure_right", "_law_labels_right"]
abbrev names : List Str := nm0 ++ nm1 ++ nm2
def fx0 : List Fx := [.strs "ALL_WORDS" ["append", "copy", "move", "out", "put", "tidy"], .strs "KINDS" ["number", "above", "below", "end"], .strs "LETTERS" ["a", "b", "c", "d"], .int "MOST_LISTS" 400, .int "MOST_MOST" 5, .int "MOST_NUMBER" 9, .int "MOST_POINTERS" 2, .int "MOST_SPOTS" 5, .int "MOST_STEPS" 6, .exc "TooLarge", .free "abs", .free "all", .free "any", .free "bool", .fi "Steps" "__call__", .fi "Way" "__call__", .free "enumerate", .gi "Steps" "__getitem__", .free "int", .free "isinstance", .free "len", .free "list", .free "range", .slot "Astray" "edits" 0, .slot "Fewest" "choice" 0, .slot "Fewest" "doubts" 1, .slot "Fewest" "sure" 2, .slot "Hopeless" "doubts" 0, .slot "Plan" "own_most" 0, .slot "Plan" "own_way" 1, .slot "Plan" "own_words" 2, .slot "Steps" "line" 0, .slot "Sure" "lists" 0, .slot "Way" "line" 0, .slot "Web" "lost" 0, .slot "Web" "roads" 1, .free "str", .free "sum", .free "tuple", .free "zip", .glo "is_label", .glo "is_number", .glo "is_pointer", .glo "is_step", .mk "Steps", .cm "Steps" "of", .glo "_law_list", .glo "is_word", .mk "Way", .sm "Way" "every", .glo "all_spots", .meth "Steps" "spots", .glo "first_with", .glo "meaning", .glo "meant_at", .meth "Steps" "__call__", .glo "are_whole", .meth "Steps" "is_whole"]
def fx1 : List Fx := [.glo "check_steps", .glo "are_rows", .glo "is_edit", .prop "Steps" "rows", .glo "sources", .glo "standing", .glo "pointing", .glo "kept", .glo "label_of", .glo "edited", .meth "Way" "__call__", .meth "Steps" "__getitem__", .glo "check_way", .glo "check_edit", .prop "Way" "words", .glo "astray", .glo "origins", .glo "_law_edits_right", .glo "are_words", .mk "Plan", .glo "check_plan", .meth "Steps" "__len__", .prop "Plan" "most", .glo "check_for", .prop "Plan" "words", .glo "is_free", .glo "is_allowed", .glo "all_allowed", .glo "allowed", .mk "Sure", .glo "check_whole", .prop "Plan" "way", .glo "holds", .meth "Sure" "shows", .mk "Web", .mk "Astray", .meth "Web" "edits_lost", .glo "answer_for", .glo "sure", .glo "soonest", .meth "Astray" "shows", .glo "_law_sure_right", .glo "plain_spots", .glo "check_few", .glo "in_order", .glo "labels_for", .glo "after_choice", .glo "possible", .mk "Fewest", .mk "Hopeless", .glo "fewest", .glo "fewest_size", .glo "is_spot_pair", .glo "labelled", .glo "are_doubts", .meth "Fewest" "shows", .meth "Hopeless" "shows", .glo "_law_labels_right", .glo "law"]
abbrev fxs : List Fx := fx0 ++ fx1
abbrev css : List Str := ["Steps", "Way", "Plan", "Sure", "Astray", "Web", "Fewest", "Hopeless", "", "TooLarge"]
def ds0 : DS := ⟨.glo "is_label", "is_label", "is_label", top 17, [], []⟩
def ds1 : DS := ⟨.glo "is_number", "is_number", "is_number", top 16, [], []⟩
def ds2 : DS := ⟨.glo "is_pointer", "is_pointer", "is_pointer", top 18, [], []⟩
def ds3 : DS := ⟨.glo "is_step", "is_step", "is_step", top 19, [], []⟩
def ds4 : DS := ⟨.meth "Steps" "__init__", "__init__", "Steps.__init__", inClass (top 27) 1, [], []⟩
def ds5 : DS := ⟨.cmet "Steps" "of", "of", "Steps.of", inClass (top 27) 2, [], []⟩
def ds6 : DS := ⟨.glo "_law_list", "_law_list", "_law_list", top 85, [], []⟩
def ds7 : DS := ⟨.glo "is_word", "is_word", "is_word", top 40, [], []⟩
def ds8 : DS := ⟨.meth "Way" "__init__", "__init__", "Way.__init__", inClass (top 41) 1, [("number", .str "raw"), ("above", .str "raw"), ("below", .str "raw"), ("end", .str "raw")], []⟩
def ds9 : DS := ⟨.stat "Way" "every", "every", "Way.every", inClass (top 41) 2, [], []⟩
def ds10 : DS := ⟨.glo "all_spots", "all_spots", "all_spots", top 23, [], []⟩
def ds11 : DS := ⟨.meth "Steps" "spots", "spots", "Steps.spots", inClass (top 27) 9, [], []⟩
def ds12 : DS := ⟨.glo "first_with", "first_with", "first_with", top 21, [], []⟩
def ds13 : DS := ⟨.glo "meaning", "meaning", "meaning", top 22, [], []⟩
def ds14 : DS := ⟨.glo "meant_at", "meant_at", "meant_at", top 24, [], []⟩
def ds15 : DS := ⟨.meth "Steps" "__call__", "__call__", "Steps.__call__", inClass (top 27) 8, [], []⟩
def ds16 : DS := ⟨.glo "are_whole", "are_whole", "are_whole", top 25, [], []⟩
def ds17 : DS := ⟨.meth "Steps" "is_whole", "is_whole", "Steps.is_whole", inClass (top 27) 10, [], []⟩
def ds18 : DS := ⟨.glo "check_steps", "check_steps", "check_steps", top 28, [], []⟩
def ds19 : DS := ⟨.glo "are_rows", "are_rows", "are_rows", top 20, [], []⟩
def ds20 : DS := ⟨.glo "is_edit", "is_edit", "is_edit", top 32, [], []⟩
def ds21 : DS := ⟨.prop "Steps" "rows", "rows", "Steps.rows", inClass (top 27) 3, [], []⟩
def ds22 : DS := ⟨.glo "sources", "sources", "sources", top 33, [], []⟩
def ds23 : DS := ⟨.glo "standing", "standing", "standing", top 34, [], []⟩
def ds24 : DS := ⟨.glo "pointing", "pointing", "pointing", top 35, [], []⟩
def ds25 : DS := ⟨.glo "kept", "kept", "kept", top 36, [], []⟩
def ds26 : DS := ⟨.glo "label_of", "label_of", "label_of", top 38, [], []⟩
def ds27 : DS := ⟨.glo "edited", "edited", "edited", top 37, [], []⟩
def ds28 : DS := ⟨.meth "Way" "__call__", "__call__", "Way.__call__", inClass (top 41) 8, [], []⟩
def ds29 : DS := ⟨.meth "Steps" "__getitem__", "__getitem__", "Steps.__getitem__", inClass (top 27) 6, [], []⟩
def ds30 : DS := ⟨.glo "check_way", "check_way", "check_way", top 43, [], []⟩
def ds31 : DS := ⟨.glo "check_edit", "check_edit", "check_edit", top 81, [], []⟩
def ds32 : DS := ⟨.prop "Way" "words", "words", "Way.words", inClass (top 41) 7, [], []⟩
def ds33 : DS := ⟨.glo "astray", "astray", "astray", top 83, [], []⟩
def ds34 : DS := ⟨.glo "origins", "origins", "origins", top 82, [], []⟩
def ds35 : DS := ⟨.glo "_law_edits_right", "_law_edits_right", "_law_edits_right", top 86, [], []⟩
def ds36 : DS := ⟨.glo "are_words", "are_words", "are_words", top 47, [], []⟩
def ds37 : DS := ⟨.meth "Plan" "__init__", "__init__", "Plan.__init__", inClass (top 48) 1, [("most", .int 4)], []⟩
def ds38 : DS := ⟨.glo "check_plan", "check_plan", "check_plan", top 49, [], []⟩
def ds39 : DS := ⟨.meth "Steps" "__len__", "__len__", "Steps.__len__", inClass (top 27) 5, [], []⟩
def ds40 : DS := ⟨.prop "Plan" "most", "most", "Plan.most", inClass (top 48) 4, [], []⟩
def ds41 : DS := ⟨.glo "check_for", "check_for", "check_for", top 50, [], []⟩
def ds42 : DS := ⟨.prop "Plan" "words", "words", "Plan.words", inClass (top 48) 3, [], []⟩
def ds43 : DS := ⟨.glo "is_free", "is_free", "is_free", top 51, [], []⟩
def ds44 : DS := ⟨.glo "is_allowed", "is_allowed", "is_allowed", top 52, [], []⟩
def ds45 : DS := ⟨.glo "all_allowed", "all_allowed", "all_allowed", top 53, [], []⟩
def ds46 : DS := ⟨.glo "allowed", "allowed", "allowed", top 54, [], []⟩
def ds47 : DS := ⟨.meth "Sure" "__init__", "__init__", "Sure.__init__", inClass (top 59) 1, [], []⟩
def ds48 : DS := ⟨.glo "check_whole", "check_whole", "check_whole", top 58, [], []⟩
def ds49 : DS := ⟨.prop "Plan" "way", "way", "Plan.way", inClass (top 48) 2, [], []⟩
def ds50 : DS := ⟨.glo "holds", "holds", "holds", top 60, [], []⟩
def ds51 : DS := ⟨.meth "Sure" "shows", "shows", "Sure.shows", inClass (top 59) 3, [], []⟩
def ds52 : DS := ⟨.meth "Web" "__init__", "__init__", "Web.__init__", inClass (top 57) 1, [], []⟩
def ds53 : DS := ⟨.meth "Astray" "__init__", "__init__", "Astray.__init__", inClass (top 61) 1, [], []⟩
def ds54 : DS := ⟨.meth "Web" "edits_lost", "edits_lost", "Web.edits_lost", inClass (top 57) 2, [], []⟩
def ds55 : DS := ⟨.glo "answer_for", "answer_for", "answer_for", top 62, [], []⟩
def ds56 : DS := ⟨.glo "sure", "sure", "sure", top 63, [], []⟩
def ds57 : DS := ⟨.glo "soonest", "soonest", "soonest", top 64, [], []⟩
def ds58 : DS := ⟨.meth "Astray" "shows", "shows", "Astray.shows", inClass (top 61) 3, [], []⟩
def ds59 : DS := ⟨.glo "_law_sure_right", "_law_sure_right", "_law_sure_right", top 87, [], []⟩
def ds60 : DS := ⟨.glo "plain_spots", "plain_spots", "plain_spots", top 67, [], []⟩
def ds61 : DS := ⟨.glo "check_few", "check_few", "check_few", top 74, [], []⟩
def ds62 : DS := ⟨.glo "in_order", "in_order", "in_order", top 71, [], []⟩
def ds63 : DS := ⟨.glo "labels_for", "labels_for", "labels_for", top 68, [], []⟩
def ds64 : DS := ⟨.glo "after_choice", "after_choice", "after_choice", top 69, [], []⟩
def ds65 : DS := ⟨.glo "possible", "possible", "possible", top 70, [], []⟩
def ds66 : DS := ⟨.meth "Fewest" "__init__", "__init__", "Fewest.__init__", inClass (top 76) 1, [], []⟩
def ds67 : DS := ⟨.meth "Hopeless" "__init__", "__init__", "Hopeless.__init__", inClass (top 77) 1, [], []⟩
def ds68 : DS := ⟨.glo "fewest", "fewest", "fewest", top 78, [], []⟩
def ds69 : DS := ⟨.glo "fewest_size", "fewest_size", "fewest_size", top 79, [], []⟩
def ds70 : DS := ⟨.glo "is_spot_pair", "is_spot_pair", "is_spot_pair", top 72, [], []⟩
def ds71 : DS := ⟨.glo "labelled", "labelled", "labelled", top 73, [], []⟩
def ds72 : DS := ⟨.glo "are_doubts", "are_doubts", "are_doubts", top 75, [], []⟩
def ds73 : DS := ⟨.meth "Fewest" "shows", "shows", "Fewest.shows", inClass (top 76) 3, [], []⟩
def ds74 : DS := ⟨.meth "Hopeless" "shows", "shows", "Hopeless.shows", inClass (top 77) 3, [], []⟩
def ds75 : DS := ⟨.glo "_law_labels_right", "_law_labels_right", "_law_labels_right", top 88, [], []⟩
def ds76 : DS := ⟨.glo "law", "law", "law", top 89, [], []⟩
def fn0 : List DS := [ds0, ds1, ds2, ds3, ds4, ds5, ds6, ds7, ds8, ds9, ds10, ds11, ds12, ds13, ds14, ds15, ds16, ds17, ds18, ds19, ds20, ds21, ds22, ds23, ds24, ds25, ds26, ds27, ds28, ds29, ds30, ds31, ds32, ds33, ds34, ds35, ds36, ds37]
def fn1 : List DS := [ds38, ds39, ds40, ds41, ds42, ds43, ds44, ds45, ds46, ds47, ds48, ds49, ds50, ds51, ds52, ds53, ds54, ds55, ds56, ds57, ds58, ds59, ds60, ds61, ds62, ds63, ds64, ds65, ds66, ds67, ds68, ds69, ds70, ds71, ds72, ds73, ds74, ds75, ds76]
abbrev fns : List DS := fn0 ++ fn1
abbrev tb0 : List Tb := [("RANKS", [("raw", 0), ("shift", 1), ("follow", 2)])]
abbrev tb1 : List Tb := []
abbrev tbs : List Tb := tb0 ++ tb1
abbrev R : PySem.W.OpenRow := PySem.W.OpenLaw.row PySem.Challenge.rw_seeabove_k11_known
abbrev hk : PySem.W.Hook := hookS 6 fxs css fns tbs
noncomputable def ob (s : PySem.W.SharedT) : AlS := obS 6 fxs css fns tbs (HandSHeadRun.getT s)
theorem ob_eq (s : PySem.W.SharedT) : ob s = hk.obs s.abs := obS_eq (HandSHeadRun.getT_eq s)
theorem lf (w : World) : LookOk R (PySem.W.view R.prog [89]) 20000 names (w.withFollow "special-get-raises" false) := by
  intro os
  kernel_rfl
theorem p0f (w : World) : PartOk R 20000 fx0 css fn0 tb0 (w.withFollow "special-get-raises" false) := by
  intro os
  kernel_rfl
theorem p1f (w : World) : PartOk R 20000 fx1 [] fn1 tb1 (w.withFollow "special-get-raises" false) := by
  intro os
  kernel_rfl
theorem lt (w : World) : LookOk R (PySem.W.view R.prog [89]) 20000 names (w.withFollow "special-get-raises" true) := by
  intro os
  kernel_rfl
theorem p0t (w : World) : PartOk R 20000 fx0 css fn0 tb0 (w.withFollow "special-get-raises" true) := by
  intro os
  kernel_rfl
theorem p1t (w : World) : PartOk R 20000 fx1 [] fn1 tb1 (w.withFollow "special-get-raises" true) := by
  intro os
  kernel_rfl
theorem lw (w : World) : LookOk R (PySem.W.view R.prog [89]) 20000 names w :=
  PySem.W.byRow2 "special-get-raises" (P := fun w => LookOk R (PySem.W.view R.prog [89]) 20000 names w) lf lt w
theorem p0 (w : World) : PartOk R 20000 fx0 css fn0 tb0 w :=
  PySem.W.byRow2 "special-get-raises" (P := fun w => PartOk R 20000 fx0 css fn0 tb0 w) p0f p0t w
theorem p1 (w : World) : PartOk R 20000 fx1 [] fn1 tb1 w :=
  PySem.W.byRow2 "special-get-raises" (P := fun w => PartOk R 20000 fx1 [] fn1 tb1 w) p1f p1t w
theorem run (w : World) : HandSHeadRun.RunEq R (PySem.W.view R.prog [89]) hk ob 20000 names w := run_parts (lw w) (part_app (p0 w) (p1 w))
theorem facts {w : World} {K : PySem.W.Frag} {h : Heap} {mg : Str → Option Value} (X : K.In h) (G : h.Ns mainGlobals mg) (e : obsS fxs css fns tbs K = valS fns tbs w) : Fc ⟨K, clsA K css, [], w⟩ w mg := by
  exact {
    C := cf_of X G (says_b e).2.1,
    cw := rfl,
    g_ALL_WORDS := fx_strs X G (says_fx e 0),
    g_Astray := cls_mg X G (says_b e).2.1 (k := 4) (by decide),
    g_Fewest := cls_mg X G (says_b e).2.1 (k := 6) (by decide),
    g_Hopeless := cls_mg X G (says_b e).2.1 (k := 7) (by decide),
    g_KINDS := fx_strs X G (says_fx e 1),
    g_LETTERS := fx_strs X G (says_fx e 2),
    g_MOST_LISTS := fx_int X G (says_fx e 3),
    g_MOST_MOST := fx_int X G (says_fx e 4),
    g_MOST_NUMBER := fx_int X G (says_fx e 5),
    g_MOST_POINTERS := fx_int X G (says_fx e 6),
    g_MOST_SPOTS := fx_int X G (says_fx e 7),
    g_MOST_STEPS := fx_int X G (says_fx e 8),
    g_Plan := cls_mg X G (says_b e).2.1 (k := 2) (by decide),
    g_RANKS := says_tb X G e 0,
    g_Steps := cls_mg X G (says_b e).2.1 (k := 0) (by decide),
    g_Sure := cls_mg X G (says_b e).2.1 (k := 3) (by decide),
    x_TooLarge := fx_exc X G (says_fx e 9),
    g_Way := cls_mg X G (says_b e).2.1 (k := 1) (by decide),
    g_Web := cls_mg X G (says_b e).2.1 (k := 5) (by decide),
    g_abs := fx_free X G (says_fx e 10),
    g_all := fx_free X G (says_fx e 11),
    g_any := fx_free X G (says_fx e 12),
    g_bool := fx_free X G (says_fx e 13),
    co_Steps := fx_callo (says_fx e 55 (f := .meth "Steps" "__call__")) (says_fx e 14 (f := .fi "Steps" "__call__")),
    co_Way := fx_callo (says_fx e 68 (f := .meth "Way" "__call__")) (says_fx e 15 (f := .fi "Way" "__call__")),
    g_enumerate := fx_free X G (says_fx e 16),
    gi_Steps := fx_gi (says_fx e 17),
    g_int := fx_free X G (says_fx e 18),
    g_isinstance := fx_free X G (says_fx e 19),
    g_len := fx_free X G (says_fx e 20),
    g_list := fx_free X G (says_fx e 21),
    g_range := fx_free X G (says_fx e 22),
    s_Astray_edits := fx_slot (says_fx e 23),
    s_Fewest_choice := fx_slot (says_fx e 24),
    s_Fewest_doubts := fx_slot (says_fx e 25),
    s_Fewest_sure := fx_slot (says_fx e 26),
    s_Hopeless_doubts := fx_slot (says_fx e 27),
    s_Plan_own_most := fx_slot (says_fx e 28),
    s_Plan_own_way := fx_slot (says_fx e 29),
    s_Plan_own_words := fx_slot (says_fx e 30),
    s_Steps_line := fx_slot (says_fx e 31),
    s_Sure_lists := fx_slot (says_fx e 32),
    s_Way_line := fx_slot (says_fx e 33),
    s_Web_lost := fx_slot (says_fx e 34),
    s_Web_roads := fx_slot (says_fx e 35),
    g_str := fx_free X G (says_fx e 36),
    g_sum := fx_free X G (says_fx e 37),
    g_tuple := fx_free X G (says_fx e 38),
    g_zip := fx_free X G (says_fx e 39),
    f_is_label := let ⟨fd, F⟩ := says_fn e 0 (d := ds0); ⟨_, fd, fx_glo X G (says_fx e 40 (f := .glo "is_label")), F⟩,
    f_is_number := let ⟨fd, F⟩ := says_fn e 1 (d := ds1); ⟨_, fd, fx_glo X G (says_fx e 41 (f := .glo "is_number")), F⟩,
    f_is_pointer := let ⟨fd, F⟩ := says_fn e 2 (d := ds2); ⟨_, fd, fx_glo X G (says_fx e 42 (f := .glo "is_pointer")), F⟩,
    f_is_step := let ⟨fd, F⟩ := says_fn e 3 (d := ds3); ⟨_, fd, fx_glo X G (says_fx e 43 (f := .glo "is_step")), F⟩,
    f_Steps_init := let ⟨fd, F⟩ := says_fn e 4 (d := ds4); ⟨_, fd, fx_mk (says_fx e 44 (f := .mk "Steps")), F⟩,
    f_Steps_of := let ⟨fd, F⟩ := says_fn e 5 (d := ds5); let ⟨p, hp⟩ := fx_cm (says_fx e 45 (f := .cm "Steps" "of")); ⟨p, _, fd, hp, F⟩,
    f__law_list := let ⟨fd, F⟩ := says_fn e 6 (d := ds6); ⟨_, fd, fx_glo X G (says_fx e 46 (f := .glo "_law_list")), F⟩,
    f_is_word := let ⟨fd, F⟩ := says_fn e 7 (d := ds7); ⟨_, fd, fx_glo X G (says_fx e 47 (f := .glo "is_word")), F⟩,
    f_Way_init := let ⟨fd, F⟩ := says_fn e 8 (d := ds8); ⟨_, fd, fx_mk (says_fx e 48 (f := .mk "Way")), F⟩,
    f_Way_every := let ⟨fd, F⟩ := says_fn e 9 (d := ds9); let ⟨p, hp⟩ := fx_sm (says_fx e 49 (f := .sm "Way" "every")); ⟨p, _, fd, hp, F⟩,
    f_all_spots := let ⟨fd, F⟩ := says_fn e 10 (d := ds10); ⟨_, fd, fx_glo X G (says_fx e 50 (f := .glo "all_spots")), F⟩,
    f_Steps_spots := let ⟨fd, F⟩ := says_fn e 11 (d := ds11); ⟨_, fd, fx_meth (says_fx e 51 (f := .meth "Steps" "spots")), F⟩,
    f_first_with := let ⟨fd, F⟩ := says_fn e 12 (d := ds12); ⟨_, fd, fx_glo X G (says_fx e 52 (f := .glo "first_with")), F⟩,
    f_meaning := let ⟨fd, F⟩ := says_fn e 13 (d := ds13); ⟨_, fd, fx_glo X G (says_fx e 53 (f := .glo "meaning")), F⟩,
    f_meant_at := let ⟨fd, F⟩ := says_fn e 14 (d := ds14); ⟨_, fd, fx_glo X G (says_fx e 54 (f := .glo "meant_at")), F⟩,
    f_Steps_call := let ⟨fd, F⟩ := says_fn e 15 (d := ds15); ⟨_, fd, fx_meth (says_fx e 55 (f := .meth "Steps" "__call__")), F⟩,
    f_are_whole := let ⟨fd, F⟩ := says_fn e 16 (d := ds16); ⟨_, fd, fx_glo X G (says_fx e 56 (f := .glo "are_whole")), F⟩,
    f_Steps_is_whole := let ⟨fd, F⟩ := says_fn e 17 (d := ds17); ⟨_, fd, fx_meth (says_fx e 57 (f := .meth "Steps" "is_whole")), F⟩,
    f_check_steps := let ⟨fd, F⟩ := says_fn e 18 (d := ds18); ⟨_, fd, fx_glo X G (says_fx e 58 (f := .glo "check_steps")), F⟩,
    f_are_rows := let ⟨fd, F⟩ := says_fn e 19 (d := ds19); ⟨_, fd, fx_glo X G (says_fx e 59 (f := .glo "are_rows")), F⟩,
    f_is_edit := let ⟨fd, F⟩ := says_fn e 20 (d := ds20); ⟨_, fd, fx_glo X G (says_fx e 60 (f := .glo "is_edit")), F⟩,
    f_Steps_rows := let ⟨fd, F⟩ := says_fn e 21 (d := ds21); ⟨_, _, fd, fx_prop (says_fx e 61 (f := .prop "Steps" "rows")), F⟩,
    f_sources := let ⟨fd, F⟩ := says_fn e 22 (d := ds22); ⟨_, fd, fx_glo X G (says_fx e 62 (f := .glo "sources")), F⟩,
    f_standing := let ⟨fd, F⟩ := says_fn e 23 (d := ds23); ⟨_, fd, fx_glo X G (says_fx e 63 (f := .glo "standing")), F⟩,
    f_pointing := let ⟨fd, F⟩ := says_fn e 24 (d := ds24); ⟨_, fd, fx_glo X G (says_fx e 64 (f := .glo "pointing")), F⟩,
    f_kept := let ⟨fd, F⟩ := says_fn e 25 (d := ds25); ⟨_, fd, fx_glo X G (says_fx e 65 (f := .glo "kept")), F⟩,
    f_label_of := let ⟨fd, F⟩ := says_fn e 26 (d := ds26); ⟨_, fd, fx_glo X G (says_fx e 66 (f := .glo "label_of")), F⟩,
    f_edited := let ⟨fd, F⟩ := says_fn e 27 (d := ds27); ⟨_, fd, fx_glo X G (says_fx e 67 (f := .glo "edited")), F⟩,
    f_Way_call := let ⟨fd, F⟩ := says_fn e 28 (d := ds28); ⟨_, fd, fx_meth (says_fx e 68 (f := .meth "Way" "__call__")), F⟩,
    f_Steps_getitem := let ⟨fd, F⟩ := says_fn e 29 (d := ds29); ⟨_, fd, fx_meth (says_fx e 69 (f := .meth "Steps" "__getitem__")), F⟩,
    f_check_way := let ⟨fd, F⟩ := says_fn e 30 (d := ds30); ⟨_, fd, fx_glo X G (says_fx e 70 (f := .glo "check_way")), F⟩,
    f_check_edit := let ⟨fd, F⟩ := says_fn e 31 (d := ds31); ⟨_, fd, fx_glo X G (says_fx e 71 (f := .glo "check_edit")), F⟩,
    f_Way_words := let ⟨fd, F⟩ := says_fn e 32 (d := ds32); ⟨_, _, fd, fx_prop (says_fx e 72 (f := .prop "Way" "words")), F⟩,
    f_astray := let ⟨fd, F⟩ := says_fn e 33 (d := ds33); ⟨_, fd, fx_glo X G (says_fx e 73 (f := .glo "astray")), F⟩,
    f_origins := let ⟨fd, F⟩ := says_fn e 34 (d := ds34); ⟨_, fd, fx_glo X G (says_fx e 74 (f := .glo "origins")), F⟩,
    f__law_edits_right := let ⟨fd, F⟩ := says_fn e 35 (d := ds35); ⟨_, fd, fx_glo X G (says_fx e 75 (f := .glo "_law_edits_right")), F⟩,
    f_are_words := let ⟨fd, F⟩ := says_fn e 36 (d := ds36); ⟨_, fd, fx_glo X G (says_fx e 76 (f := .glo "are_words")), F⟩,
    f_Plan_init := let ⟨fd, F⟩ := says_fn e 37 (d := ds37); ⟨_, fd, fx_mk (says_fx e 77 (f := .mk "Plan")), F⟩,
    f_check_plan := let ⟨fd, F⟩ := says_fn e 38 (d := ds38); ⟨_, fd, fx_glo X G (says_fx e 78 (f := .glo "check_plan")), F⟩,
    f_Steps_len := let ⟨fd, F⟩ := says_fn e 39 (d := ds39); ⟨_, fd, fx_meth (says_fx e 79 (f := .meth "Steps" "__len__")), F⟩,
    f_Plan_most := let ⟨fd, F⟩ := says_fn e 40 (d := ds40); ⟨_, _, fd, fx_prop (says_fx e 80 (f := .prop "Plan" "most")), F⟩,
    f_check_for := let ⟨fd, F⟩ := says_fn e 41 (d := ds41); ⟨_, fd, fx_glo X G (says_fx e 81 (f := .glo "check_for")), F⟩,
    f_Plan_words := let ⟨fd, F⟩ := says_fn e 42 (d := ds42); ⟨_, _, fd, fx_prop (says_fx e 82 (f := .prop "Plan" "words")), F⟩,
    f_is_free := let ⟨fd, F⟩ := says_fn e 43 (d := ds43); ⟨_, fd, fx_glo X G (says_fx e 83 (f := .glo "is_free")), F⟩,
    f_is_allowed := let ⟨fd, F⟩ := says_fn e 44 (d := ds44); ⟨_, fd, fx_glo X G (says_fx e 84 (f := .glo "is_allowed")), F⟩,
    f_all_allowed := let ⟨fd, F⟩ := says_fn e 45 (d := ds45); ⟨_, fd, fx_glo X G (says_fx e 85 (f := .glo "all_allowed")), F⟩,
    f_allowed := let ⟨fd, F⟩ := says_fn e 46 (d := ds46); ⟨_, fd, fx_glo X G (says_fx e 86 (f := .glo "allowed")), F⟩,
    f_Sure_init := let ⟨fd, F⟩ := says_fn e 47 (d := ds47); ⟨_, fd, fx_mk (says_fx e 87 (f := .mk "Sure")), F⟩,
    f_check_whole := let ⟨fd, F⟩ := says_fn e 48 (d := ds48); ⟨_, fd, fx_glo X G (says_fx e 88 (f := .glo "check_whole")), F⟩,
    f_Plan_way := let ⟨fd, F⟩ := says_fn e 49 (d := ds49); ⟨_, _, fd, fx_prop (says_fx e 89 (f := .prop "Plan" "way")), F⟩,
    f_holds := let ⟨fd, F⟩ := says_fn e 50 (d := ds50); ⟨_, fd, fx_glo X G (says_fx e 90 (f := .glo "holds")), F⟩,
    f_Sure_shows := let ⟨fd, F⟩ := says_fn e 51 (d := ds51); ⟨_, fd, fx_meth (says_fx e 91 (f := .meth "Sure" "shows")), F⟩,
    f_Web_init := let ⟨fd, F⟩ := says_fn e 52 (d := ds52); ⟨_, fd, fx_mk (says_fx e 92 (f := .mk "Web")), F⟩,
    f_Astray_init := let ⟨fd, F⟩ := says_fn e 53 (d := ds53); ⟨_, fd, fx_mk (says_fx e 93 (f := .mk "Astray")), F⟩,
    f_Web_edits_lost := let ⟨fd, F⟩ := says_fn e 54 (d := ds54); ⟨_, fd, fx_meth (says_fx e 94 (f := .meth "Web" "edits_lost")), F⟩,
    f_answer_for := let ⟨fd, F⟩ := says_fn e 55 (d := ds55); ⟨_, fd, fx_glo X G (says_fx e 95 (f := .glo "answer_for")), F⟩,
    f_sure := let ⟨fd, F⟩ := says_fn e 56 (d := ds56); ⟨_, fd, fx_glo X G (says_fx e 96 (f := .glo "sure")), F⟩,
    f_soonest := let ⟨fd, F⟩ := says_fn e 57 (d := ds57); ⟨_, fd, fx_glo X G (says_fx e 97 (f := .glo "soonest")), F⟩,
    f_Astray_shows := let ⟨fd, F⟩ := says_fn e 58 (d := ds58); ⟨_, fd, fx_meth (says_fx e 98 (f := .meth "Astray" "shows")), F⟩,
    f__law_sure_right := let ⟨fd, F⟩ := says_fn e 59 (d := ds59); ⟨_, fd, fx_glo X G (says_fx e 99 (f := .glo "_law_sure_right")), F⟩,
    f_plain_spots := let ⟨fd, F⟩ := says_fn e 60 (d := ds60); ⟨_, fd, fx_glo X G (says_fx e 100 (f := .glo "plain_spots")), F⟩,
    f_check_few := let ⟨fd, F⟩ := says_fn e 61 (d := ds61); ⟨_, fd, fx_glo X G (says_fx e 101 (f := .glo "check_few")), F⟩,
    f_in_order := let ⟨fd, F⟩ := says_fn e 62 (d := ds62); ⟨_, fd, fx_glo X G (says_fx e 102 (f := .glo "in_order")), F⟩,
    f_labels_for := let ⟨fd, F⟩ := says_fn e 63 (d := ds63); ⟨_, fd, fx_glo X G (says_fx e 103 (f := .glo "labels_for")), F⟩,
    f_after_choice := let ⟨fd, F⟩ := says_fn e 64 (d := ds64); ⟨_, fd, fx_glo X G (says_fx e 104 (f := .glo "after_choice")), F⟩,
    f_possible := let ⟨fd, F⟩ := says_fn e 65 (d := ds65); ⟨_, fd, fx_glo X G (says_fx e 105 (f := .glo "possible")), F⟩,
    f_Fewest_init := let ⟨fd, F⟩ := says_fn e 66 (d := ds66); ⟨_, fd, fx_mk (says_fx e 106 (f := .mk "Fewest")), F⟩,
    f_Hopeless_init := let ⟨fd, F⟩ := says_fn e 67 (d := ds67); ⟨_, fd, fx_mk (says_fx e 107 (f := .mk "Hopeless")), F⟩,
    f_fewest := let ⟨fd, F⟩ := says_fn e 68 (d := ds68); ⟨_, fd, fx_glo X G (says_fx e 108 (f := .glo "fewest")), F⟩,
    f_fewest_size := let ⟨fd, F⟩ := says_fn e 69 (d := ds69); ⟨_, fd, fx_glo X G (says_fx e 109 (f := .glo "fewest_size")), F⟩,
    f_is_spot_pair := let ⟨fd, F⟩ := says_fn e 70 (d := ds70); ⟨_, fd, fx_glo X G (says_fx e 110 (f := .glo "is_spot_pair")), F⟩,
    f_labelled := let ⟨fd, F⟩ := says_fn e 71 (d := ds71); ⟨_, fd, fx_glo X G (says_fx e 111 (f := .glo "labelled")), F⟩,
    f_are_doubts := let ⟨fd, F⟩ := says_fn e 72 (d := ds72); ⟨_, fd, fx_glo X G (says_fx e 112 (f := .glo "are_doubts")), F⟩,
    f_Fewest_shows := let ⟨fd, F⟩ := says_fn e 73 (d := ds73); ⟨_, fd, fx_meth (says_fx e 113 (f := .meth "Fewest" "shows")), F⟩,
    f_Hopeless_shows := let ⟨fd, F⟩ := says_fn e 74 (d := ds74); ⟨_, fd, fx_meth (says_fx e 114 (f := .meth "Hopeless" "shows")), F⟩,
    f__law_labels_right := let ⟨fd, F⟩ := says_fn e 75 (d := ds75); ⟨_, fd, fx_glo X G (says_fx e 115 (f := .glo "_law_labels_right")), F⟩,
    f_law := let ⟨fd, F⟩ := says_fn e 76 (d := ds76); ⟨_, fd, fx_glo X G (says_fx e 116 (f := .glo "law")), F⟩ }
end Hd
open PySem PySem.W PySem.Calls PyProof.Rows
theorem Hd.holds (hp : ∀ ns : List Int, ns.length ≤ 63 → ∃ S', Wk.m_law [.scr (ns.map Sm.D.int)] [] = .ok (.bl true) S') : PySem.Challenge.rw_seeabove_k11_known.Holds := by
  w_on; o_law
  refine HandSHeadRun.head_any (r := OpenLaw.row PySem.Challenge.rw_seeabove_k11_known) (q := view (OpenLaw.row PySem.Challenge.rw_seeabove_k11_known).prog [89]) (H := Hd.hk) (ob := Hd.ob) (M := 20000) (loose := Hd.names) (d := HandSHeadRun.topDef (OpenLaw.row PySem.Challenge.rw_seeabove_k11_known).prog 89) (kwd := []) Hd.ob_eq
    (by kernel_rfl) (fun s => by kernel_rfl) Hd.run (by kernel_rfl) (by kernel_rfl) (by kernel_rfl) (by rfl) (by first | assumption | decide +kernel) (by decide +kernel) ⟨rfl, rfl, rfl, rfl, rfl, by decide +kernel⟩ ?hw ?hc
  case hw => w_witness2
  case hc =>
    refine Sm.walk_ofS (l := PySem.Challenge.rw_seeabove_k11_known) (n := 63) (k := 14) (x := "_law_script") (CX := fun w => L2.CX (PySem.Challenge.rw_seeabove_k11_known).prog w) rfl (by decide) (by kernel_rfl) ⟨rfl, by decide, by decide⟩ ?F (fun w H s e s' z => Sm.cx_none H s e s' z)
    intro w mg fa h Y G hmg0
    obtain ⟨K, KX, e⟩ := Y
    have hmg : mg ("law" : PySem.Str) = some (.ref fa) := by
      have e : (HandSHeadRun.topDef (OpenLaw.row PySem.Challenge.rw_seeabove_k11_known).prog 89).name = ("law" : PySem.Str) := by kernel_rfl
      rw [← e]
      exact hmg0
    obtain ⟨ad, fd, h1, hb, hF⟩ := Wk.F_law (P := (PySem.Challenge.rw_seeabove_k11_known).prog) (Hd.facts KX G e)
    have e2 := hmg.symm.trans h1
    cases e2
    exact ⟨K, fd, _, KX, hb, fun H a ns hl _ hS => Sm.prom_law (c := ⟨K, Sm.clsA K Hd.css, [], w⟩) rfl hl hS (hp ns hl), fun base _ _ => hF base⟩


/-! text: K2 -/
set_option Elab.async false
set_option linter.all false
set_option maxRecDepth 100000
set_option maxHeartbeats 0
namespace Pu
open PySem PySem.Spec L2 Sm Wk

theorem seqS_nx {a b : Sm.Env → M Out} {ρ ρ' : Sm.Env} {S S' : Sto} (h : a ρ S = .ok (.nx ρ') S') : seqS a b ρ S = b ρ' S' := by
  unfold seqS bd
  simp only [h]
theorem setV_ok {i : Nat} {m : Sm.Env → M D} {ρ : Sm.Env} {S S' : Sto} {d : D} (h : m ρ S = .ok d S') : setV i m ρ S = .ok (.nx (ρ.set i (.val d))) S' := by
  unfold setV bd
  simp only [h]
  rfl
theorem call2 {X : M (List D)} {m : List D → M D} {a b d : D} {S S' : Sto} (hq : X S = .ok [a, b] S) (h : m [a, b] S = .ok d S') : bd X (fun ds => callM 2 m ds) S = .ok d S' := by
  unfold bd
  simp only [hq]
  exact h
theorem bd_ok {α β : Type} {m : M α} {f : α → M β} {S S' : Sto} {a : α} (h : m S = .ok a S') : bd m f S = f a S' := by
  unfold bd
  simp only [h]
theorem fnM_ok {n : Nat} {mb : Sm.Env → M Out} {ds : List D} {S S' : Sto} {d : D} {e : Sm.Env} (he : ds.map Slot.val ++ List.replicate (n - ds.length) .no = e) (h : mb e S = .ok (.ret d) S') : fnM n mb ds S = .ok d S' := by
  unfold fnM
  rw [he]
  exact (bd_ok h).trans rfl
theorem forM_nx {t : Tg} {b : Sm.Env → M Out} {d : D} {ds : List D} {ρ ρ1 ρ2 : Sm.Env} {S S2 : Sto} (h1 : bindD t d ρ = some ρ1) (h2 : b ρ1 S = .ok (.nx ρ2) S2) : forM t b (d :: ds) ρ S = forM t b ds ρ2 S2 := by
  conv => lhs; unfold Sm.forM
  simp only [h1]
  unfold bd
  simp only [h2]
def itM (t : Sm.Env → M Bool) (b : Sm.Env → M Out) : Nat → Sm.Env → M Sm.Env
  | 0, ρ => rt ρ
  | n + 1, ρ => bd (t ρ) fun x => iteM x (bd (b ρ) fun o => match o with
      | .nx ρ2 => itM t b n ρ2
      | _ => stk) stk
theorem whM_it {t : Sm.Env → M Bool} {b : Sm.Env → M Out} {ρ2 : Sm.Env} {S2 : Sto} (n : Nat) : ∀ (k : Nat) {ρ : Sm.Env} {S : Sto}, itM t b k ρ S = .ok ρ2 S2 → whM t b (n + k) ρ S = whM t b n ρ2 S2
  | 0, ρ, S, h => by
    have e : Res.ok ρ S = Res.ok ρ2 S2 := h
    cases e
    rfl
  | k + 1, ρ, S, h => by
    unfold itM at h
    show whM t b ((n + k) + 1) ρ S = _
    conv => lhs; unfold whM
    unfold bd at h ⊢
    cases ht : t ρ S with
    | ok x S1 =>
      simp only [ht] at h ⊢
      cases x with
      | false => cases h
      | true =>
        dsimp only [iteM] at h ⊢
        cases hb : b ρ S1 with
        | ok o S3 =>
          simp only [hb] at h ⊢
          cases o with
          | nx ρ3 => exact whM_it n k h
          | _ => cases h
        | err => simp only [hb] at h; cases h
        | stuck => simp only [hb] at h; cases h
    | err => simp only [ht] at h; cases h
    | stuck => simp only [ht] at h; cases h
def rawW : D := .ins 1 [.tup [.str "raw", .str "raw", .str "raw", .str "raw"]]
def folW : D := .ins 1 [.tup [.str "follow", .str "raw", .str "raw", .str "raw"]]
def pWorse : D := .ins 2 [.int 4, rawW, .tup [.str "copy", .str "move"]]
def pPlan : D := .ins 2 [.int 3, folW, .tup [.str "move"]]

def rwA : D := .tup [.tup [.non, .tup []], .tup [.str "b", .tup [.tup [.str "above", .int 1], .tup [.str "number", .int 0]]], .tup [.non, .tup [.tup [.str "number", .int 1]]]]
def stA : D := .ins 0 [rwA]
def astC : D := .ins 4 [.lst [.tup [.str "copy", .int 0, .int 0]]]
def ch0 : D := .tup []
def rw0 : D := .tup [.tup [.non, .tup []], .tup [.str "b", .tup [.tup [.str "above", .int 1], .tup [.str "number", .int 0]]], .tup [.non, .tup [.tup [.str "number", .int 1]]]]
def ro0 : List (D × D) := [(.tup [.tup [.non, .tup []], .tup [.str "b", .tup [.tup [.str "above", .int 1], .tup [.str "number", .int 0]]], .tup [.non, .tup [.tup [.str "number", .int 1]]]], .non),
  (.tup [.tup [.non, .tup []], .tup [.str "b", .tup [.tup [.str "above", .int 1], .tup [.str "number", .int 0]]], .tup [.non, .tup []], .tup [.non, .tup [.tup [.str "number", .int 1]]]], .tup [.tup [.tup [.non, .tup []], .tup [.str "b", .tup [.tup [.str "above", .int 1], .tup [.str "number", .int 0]]], .tup [.non, .tup [.tup [.str "number", .int 1]]]], .tup [.str "copy", .int 0, .int 2]]),
  (.tup [.tup [.non, .tup []], .tup [.str "b", .tup [.tup [.str "above", .int 1], .tup [.str "number", .int 0]]], .tup [.non, .tup [.tup [.str "number", .int 1]]], .tup [.non, .tup []]], .tup [.tup [.tup [.non, .tup []], .tup [.str "b", .tup [.tup [.str "above", .int 1], .tup [.str "number", .int 0]]], .tup [.non, .tup [.tup [.str "number", .int 1]]]], .tup [.str "copy", .int 0, .int 3]]),
  (.tup [.tup [.non, .tup []], .tup [.str "b", .tup [.tup [.str "above", .int 1], .tup [.str "number", .int 0]]], .tup [.non, .tup [.tup [.str "number", .int 1]]], .tup [.non, .tup [.tup [.str "number", .int 1]]]], .tup [.tup [.tup [.non, .tup []], .tup [.str "b", .tup [.tup [.str "above", .int 1], .tup [.str "number", .int 0]]], .tup [.non, .tup [.tup [.str "number", .int 1]]]], .tup [.str "copy", .int 2, .int 2]])]
def lo0 : D := .tup [rw0, .tup [.str "copy", .int 0, .int 0]]
def oi0 : Ob := .ins 5 [lo0, .ref 8]
def od0 : Ob := .dct ro0
def ch1 : D := .tup [.tup [.int 1, .int 0]]
def rw1 : D := .tup [.tup [.str "a", .tup []], .tup [.str "b", .tup [.tup [.str "label", .str "a"], .tup [.str "number", .int 0]]], .tup [.non, .tup [.tup [.str "number", .int 1]]]]
def ro1 : List (D × D) := [(.tup [.tup [.str "a", .tup []], .tup [.str "b", .tup [.tup [.str "label", .str "a"], .tup [.str "number", .int 0]]], .tup [.non, .tup [.tup [.str "number", .int 1]]]], .non),
  (.tup [.tup [.str "a", .tup []], .tup [.str "b", .tup [.tup [.str "label", .str "a"], .tup [.str "number", .int 0]]], .tup [.str "a", .tup []], .tup [.non, .tup [.tup [.str "number", .int 1]]]], .tup [.tup [.tup [.str "a", .tup []], .tup [.str "b", .tup [.tup [.str "label", .str "a"], .tup [.str "number", .int 0]]], .tup [.non, .tup [.tup [.str "number", .int 1]]]], .tup [.str "copy", .int 0, .int 2]]),
  (.tup [.tup [.str "a", .tup []], .tup [.str "b", .tup [.tup [.str "label", .str "a"], .tup [.str "number", .int 0]]], .tup [.non, .tup [.tup [.str "number", .int 1]]], .tup [.str "a", .tup []]], .tup [.tup [.tup [.str "a", .tup []], .tup [.str "b", .tup [.tup [.str "label", .str "a"], .tup [.str "number", .int 0]]], .tup [.non, .tup [.tup [.str "number", .int 1]]]], .tup [.str "copy", .int 0, .int 3]]),
  (.tup [.tup [.str "a", .tup []], .tup [.str "b", .tup [.tup [.str "label", .str "a"], .tup [.str "number", .int 0]]], .tup [.str "b", .tup [.tup [.str "label", .str "a"], .tup [.str "number", .int 0]]], .tup [.non, .tup [.tup [.str "number", .int 1]]]], .tup [.tup [.tup [.str "a", .tup []], .tup [.str "b", .tup [.tup [.str "label", .str "a"], .tup [.str "number", .int 0]]], .tup [.non, .tup [.tup [.str "number", .int 1]]]], .tup [.str "copy", .int 1, .int 2]]),
  (.tup [.tup [.str "a", .tup []], .tup [.str "b", .tup [.tup [.str "label", .str "a"], .tup [.str "number", .int 0]]], .tup [.non, .tup [.tup [.str "number", .int 1]]], .tup [.str "b", .tup [.tup [.str "label", .str "a"], .tup [.str "number", .int 0]]]], .tup [.tup [.tup [.str "a", .tup []], .tup [.str "b", .tup [.tup [.str "label", .str "a"], .tup [.str "number", .int 0]]], .tup [.non, .tup [.tup [.str "number", .int 1]]]], .tup [.str "copy", .int 1, .int 3]]),
  (.tup [.tup [.str "a", .tup []], .tup [.str "b", .tup [.tup [.str "label", .str "a"], .tup [.str "number", .int 0]]], .tup [.non, .tup [.tup [.str "number", .int 1]]], .tup [.non, .tup [.tup [.str "number", .int 1]]]], .tup [.tup [.tup [.str "a", .tup []], .tup [.str "b", .tup [.tup [.str "label", .str "a"], .tup [.str "number", .int 0]]], .tup [.non, .tup [.tup [.str "number", .int 1]]]], .tup [.str "copy", .int 2, .int 2]])]
def lo1 : D := .tup [rw1, .tup [.str "copy", .int 0, .int 0]]
def oi1 : Ob := .ins 5 [lo1, .ref 10]
def od1 : Ob := .dct ro1
def ch2 : D := .tup [.tup [.int 1, .int 1]]
def rw2 : D := .tup [.tup [.str "a", .tup []], .tup [.str "b", .tup [.tup [.str "above", .int 1], .tup [.str "label", .str "a"]]], .tup [.non, .tup [.tup [.str "number", .int 1]]]]
def ro2 : List (D × D) := [(.tup [.tup [.str "a", .tup []], .tup [.str "b", .tup [.tup [.str "above", .int 1], .tup [.str "label", .str "a"]]], .tup [.non, .tup [.tup [.str "number", .int 1]]]], .non),
  (.tup [.tup [.str "a", .tup []], .tup [.str "b", .tup [.tup [.str "above", .int 1], .tup [.str "label", .str "a"]]], .tup [.str "a", .tup []], .tup [.non, .tup [.tup [.str "number", .int 1]]]], .tup [.tup [.tup [.str "a", .tup []], .tup [.str "b", .tup [.tup [.str "above", .int 1], .tup [.str "label", .str "a"]]], .tup [.non, .tup [.tup [.str "number", .int 1]]]], .tup [.str "copy", .int 0, .int 2]]),
  (.tup [.tup [.str "a", .tup []], .tup [.str "b", .tup [.tup [.str "above", .int 1], .tup [.str "label", .str "a"]]], .tup [.non, .tup [.tup [.str "number", .int 1]]], .tup [.str "a", .tup []]], .tup [.tup [.tup [.str "a", .tup []], .tup [.str "b", .tup [.tup [.str "above", .int 1], .tup [.str "label", .str "a"]]], .tup [.non, .tup [.tup [.str "number", .int 1]]]], .tup [.str "copy", .int 0, .int 3]]),
  (.tup [.tup [.str "a", .tup []], .tup [.str "b", .tup [.tup [.str "above", .int 1], .tup [.str "label", .str "a"]]], .tup [.non, .tup [.tup [.str "number", .int 1]]], .tup [.non, .tup [.tup [.str "number", .int 1]]]], .tup [.tup [.tup [.str "a", .tup []], .tup [.str "b", .tup [.tup [.str "above", .int 1], .tup [.str "label", .str "a"]]], .tup [.non, .tup [.tup [.str "number", .int 1]]]], .tup [.str "copy", .int 2, .int 2]])]
def lo2 : D := .tup [rw2, .tup [.str "copy", .int 0, .int 0]]
def oi2 : Ob := .ins 5 [lo2, .ref 12]
def od2 : Ob := .dct ro2
def ch3 : D := .tup [.tup [.int 2, .int 0]]
def rw3 : D := .tup [.tup [.non, .tup []], .tup [.str "b", .tup [.tup [.str "above", .int 1], .tup [.str "number", .int 0]]], .tup [.non, .tup [.tup [.str "label", .str "b"]]]]
def ro3 : List (D × D) := [(.tup [.tup [.non, .tup []], .tup [.str "b", .tup [.tup [.str "above", .int 1], .tup [.str "number", .int 0]]], .tup [.non, .tup [.tup [.str "label", .str "b"]]]], .non),
  (.tup [.tup [.non, .tup []], .tup [.str "b", .tup [.tup [.str "above", .int 1], .tup [.str "number", .int 0]]], .tup [.non, .tup []], .tup [.non, .tup [.tup [.str "label", .str "b"]]]], .tup [.tup [.tup [.non, .tup []], .tup [.str "b", .tup [.tup [.str "above", .int 1], .tup [.str "number", .int 0]]], .tup [.non, .tup [.tup [.str "label", .str "b"]]]], .tup [.str "copy", .int 0, .int 2]]),
  (.tup [.tup [.non, .tup []], .tup [.str "b", .tup [.tup [.str "above", .int 1], .tup [.str "number", .int 0]]], .tup [.non, .tup [.tup [.str "label", .str "b"]]], .tup [.non, .tup []]], .tup [.tup [.tup [.non, .tup []], .tup [.str "b", .tup [.tup [.str "above", .int 1], .tup [.str "number", .int 0]]], .tup [.non, .tup [.tup [.str "label", .str "b"]]]], .tup [.str "copy", .int 0, .int 3]]),
  (.tup [.tup [.non, .tup []], .tup [.str "b", .tup [.tup [.str "above", .int 1], .tup [.str "number", .int 0]]], .tup [.non, .tup [.tup [.str "label", .str "b"]]], .tup [.non, .tup [.tup [.str "label", .str "b"]]]], .tup [.tup [.tup [.non, .tup []], .tup [.str "b", .tup [.tup [.str "above", .int 1], .tup [.str "number", .int 0]]], .tup [.non, .tup [.tup [.str "label", .str "b"]]]], .tup [.str "copy", .int 2, .int 2]])]
def lo3 : D := .tup [rw3, .tup [.str "copy", .int 0, .int 0]]
def oi3 : Ob := .ins 5 [lo3, .ref 14]
def od3 : Ob := .dct ro3
def ch4 : D := .tup [.tup [.int 1, .int 0], .tup [.int 1, .int 1]]
def rw4 : D := .tup [.tup [.str "a", .tup []], .tup [.str "b", .tup [.tup [.str "label", .str "a"], .tup [.str "label", .str "a"]]], .tup [.non, .tup [.tup [.str "number", .int 1]]]]
def ro4 : List (D × D) := [(.tup [.tup [.str "a", .tup []], .tup [.str "b", .tup [.tup [.str "label", .str "a"], .tup [.str "label", .str "a"]]], .tup [.non, .tup [.tup [.str "number", .int 1]]]], .non),
  (.tup [.tup [.str "a", .tup []], .tup [.str "b", .tup [.tup [.str "label", .str "a"], .tup [.str "label", .str "a"]]], .tup [.str "a", .tup []], .tup [.non, .tup [.tup [.str "number", .int 1]]]], .tup [.tup [.tup [.str "a", .tup []], .tup [.str "b", .tup [.tup [.str "label", .str "a"], .tup [.str "label", .str "a"]]], .tup [.non, .tup [.tup [.str "number", .int 1]]]], .tup [.str "copy", .int 0, .int 2]]),
  (.tup [.tup [.str "a", .tup []], .tup [.str "b", .tup [.tup [.str "label", .str "a"], .tup [.str "label", .str "a"]]], .tup [.non, .tup [.tup [.str "number", .int 1]]], .tup [.str "a", .tup []]], .tup [.tup [.tup [.str "a", .tup []], .tup [.str "b", .tup [.tup [.str "label", .str "a"], .tup [.str "label", .str "a"]]], .tup [.non, .tup [.tup [.str "number", .int 1]]]], .tup [.str "copy", .int 0, .int 3]]),
  (.tup [.tup [.str "a", .tup []], .tup [.str "b", .tup [.tup [.str "label", .str "a"], .tup [.str "label", .str "a"]]], .tup [.str "b", .tup [.tup [.str "label", .str "a"], .tup [.str "label", .str "a"]]], .tup [.non, .tup [.tup [.str "number", .int 1]]]], .tup [.tup [.tup [.str "a", .tup []], .tup [.str "b", .tup [.tup [.str "label", .str "a"], .tup [.str "label", .str "a"]]], .tup [.non, .tup [.tup [.str "number", .int 1]]]], .tup [.str "copy", .int 1, .int 2]]),
  (.tup [.tup [.str "a", .tup []], .tup [.str "b", .tup [.tup [.str "label", .str "a"], .tup [.str "label", .str "a"]]], .tup [.non, .tup [.tup [.str "number", .int 1]]], .tup [.str "b", .tup [.tup [.str "label", .str "a"], .tup [.str "label", .str "a"]]]], .tup [.tup [.tup [.str "a", .tup []], .tup [.str "b", .tup [.tup [.str "label", .str "a"], .tup [.str "label", .str "a"]]], .tup [.non, .tup [.tup [.str "number", .int 1]]]], .tup [.str "copy", .int 1, .int 3]]),
  (.tup [.tup [.str "a", .tup []], .tup [.str "b", .tup [.tup [.str "label", .str "a"], .tup [.str "label", .str "a"]]], .tup [.non, .tup [.tup [.str "number", .int 1]]], .tup [.non, .tup [.tup [.str "number", .int 1]]]], .tup [.tup [.tup [.str "a", .tup []], .tup [.str "b", .tup [.tup [.str "label", .str "a"], .tup [.str "label", .str "a"]]], .tup [.non, .tup [.tup [.str "number", .int 1]]]], .tup [.str "copy", .int 2, .int 2]])]
def lo4 : D := .tup [rw4, .tup [.str "copy", .int 0, .int 0]]
def oi4 : Ob := .ins 5 [lo4, .ref 16]
def od4 : Ob := .dct ro4
def ch5 : D := .tup [.tup [.int 1, .int 0], .tup [.int 2, .int 0]]
def rw5 : D := .tup [.tup [.str "a", .tup []], .tup [.str "b", .tup [.tup [.str "label", .str "a"], .tup [.str "number", .int 0]]], .tup [.non, .tup [.tup [.str "label", .str "b"]]]]
def ro5 : List (D × D) := [(.tup [.tup [.str "a", .tup []], .tup [.str "b", .tup [.tup [.str "label", .str "a"], .tup [.str "number", .int 0]]], .tup [.non, .tup [.tup [.str "label", .str "b"]]]], .non),
  (.tup [.tup [.str "a", .tup []], .tup [.str "a", .tup []], .tup [.str "b", .tup [.tup [.str "label", .str "a"], .tup [.str "number", .int 0]]], .tup [.non, .tup [.tup [.str "label", .str "b"]]]], .tup [.tup [.tup [.str "a", .tup []], .tup [.str "b", .tup [.tup [.str "label", .str "a"], .tup [.str "number", .int 0]]], .tup [.non, .tup [.tup [.str "label", .str "b"]]]], .tup [.str "copy", .int 0, .int 1]]),
  (.tup [.tup [.str "a", .tup []], .tup [.str "b", .tup [.tup [.str "label", .str "a"], .tup [.str "number", .int 0]]], .tup [.str "a", .tup []], .tup [.non, .tup [.tup [.str "label", .str "b"]]]], .tup [.tup [.tup [.str "a", .tup []], .tup [.str "b", .tup [.tup [.str "label", .str "a"], .tup [.str "number", .int 0]]], .tup [.non, .tup [.tup [.str "label", .str "b"]]]], .tup [.str "copy", .int 0, .int 2]]),
  (.tup [.tup [.str "a", .tup []], .tup [.str "b", .tup [.tup [.str "label", .str "a"], .tup [.str "number", .int 0]]], .tup [.non, .tup [.tup [.str "label", .str "b"]]], .tup [.str "a", .tup []]], .tup [.tup [.tup [.str "a", .tup []], .tup [.str "b", .tup [.tup [.str "label", .str "a"], .tup [.str "number", .int 0]]], .tup [.non, .tup [.tup [.str "label", .str "b"]]]], .tup [.str "copy", .int 0, .int 3]]),
  (.tup [.tup [.str "a", .tup []], .tup [.str "b", .tup [.tup [.str "label", .str "a"], .tup [.str "number", .int 0]]], .tup [.str "b", .tup [.tup [.str "label", .str "a"], .tup [.str "number", .int 0]]], .tup [.non, .tup [.tup [.str "label", .str "b"]]]], .tup [.tup [.tup [.str "a", .tup []], .tup [.str "b", .tup [.tup [.str "label", .str "a"], .tup [.str "number", .int 0]]], .tup [.non, .tup [.tup [.str "label", .str "b"]]]], .tup [.str "copy", .int 1, .int 2]]),
  (.tup [.tup [.str "a", .tup []], .tup [.str "b", .tup [.tup [.str "label", .str "a"], .tup [.str "number", .int 0]]], .tup [.non, .tup [.tup [.str "label", .str "b"]]], .tup [.str "b", .tup [.tup [.str "label", .str "a"], .tup [.str "number", .int 0]]]], .tup [.tup [.tup [.str "a", .tup []], .tup [.str "b", .tup [.tup [.str "label", .str "a"], .tup [.str "number", .int 0]]], .tup [.non, .tup [.tup [.str "label", .str "b"]]]], .tup [.str "copy", .int 1, .int 3]]),
  (.tup [.tup [.str "a", .tup []], .tup [.non, .tup [.tup [.str "label", .str "b"]]], .tup [.str "b", .tup [.tup [.str "label", .str "a"], .tup [.str "number", .int 0]]], .tup [.non, .tup [.tup [.str "label", .str "b"]]]], .tup [.tup [.tup [.str "a", .tup []], .tup [.str "b", .tup [.tup [.str "label", .str "a"], .tup [.str "number", .int 0]]], .tup [.non, .tup [.tup [.str "label", .str "b"]]]], .tup [.str "copy", .int 2, .int 1]]),
  (.tup [.tup [.str "a", .tup []], .tup [.str "b", .tup [.tup [.str "label", .str "a"], .tup [.str "number", .int 0]]], .tup [.non, .tup [.tup [.str "label", .str "b"]]], .tup [.non, .tup [.tup [.str "label", .str "b"]]]], .tup [.tup [.tup [.str "a", .tup []], .tup [.str "b", .tup [.tup [.str "label", .str "a"], .tup [.str "number", .int 0]]], .tup [.non, .tup [.tup [.str "label", .str "b"]]]], .tup [.str "copy", .int 2, .int 2]]),
  (.tup [.tup [.str "a", .tup []], .tup [.non, .tup [.tup [.str "label", .str "b"]]], .tup [.str "b", .tup [.tup [.str "label", .str "a"], .tup [.str "number", .int 0]]]], .tup [.tup [.tup [.str "a", .tup []], .tup [.str "b", .tup [.tup [.str "label", .str "a"], .tup [.str "number", .int 0]]], .tup [.non, .tup [.tup [.str "label", .str "b"]]]], .tup [.str "move", .int 1, .int 2]]),
  (.tup [.tup [.str "a", .tup []], .tup [.str "a", .tup []], .tup [.non, .tup [.tup [.str "label", .str "b"]]], .tup [.str "b", .tup [.tup [.str "label", .str "a"], .tup [.str "number", .int 0]]]], .tup [.tup [.tup [.str "a", .tup []], .tup [.str "a", .tup []], .tup [.str "b", .tup [.tup [.str "label", .str "a"], .tup [.str "number", .int 0]]], .tup [.non, .tup [.tup [.str "label", .str "b"]]]], .tup [.str "move", .int 2, .int 3]]),
  (.tup [.tup [.str "a", .tup []], .tup [.non, .tup [.tup [.str "label", .str "b"]]], .tup [.str "a", .tup []], .tup [.str "b", .tup [.tup [.str "label", .str "a"], .tup [.str "number", .int 0]]]], .tup [.tup [.tup [.str "a", .tup []], .tup [.str "a", .tup []], .tup [.str "b", .tup [.tup [.str "label", .str "a"], .tup [.str "number", .int 0]]], .tup [.non, .tup [.tup [.str "label", .str "b"]]]], .tup [.str "move", .int 3, .int 1]]),
  (.tup [.tup [.str "a", .tup []], .tup [.non, .tup [.tup [.str "label", .str "b"]]], .tup [.str "b", .tup [.tup [.str "label", .str "a"], .tup [.str "number", .int 0]]], .tup [.str "a", .tup []]], .tup [.tup [.tup [.str "a", .tup []], .tup [.str "b", .tup [.tup [.str "label", .str "a"], .tup [.str "number", .int 0]]], .tup [.str "a", .tup []], .tup [.non, .tup [.tup [.str "label", .str "b"]]]], .tup [.str "move", .int 3, .int 1]]),
  (.tup [.tup [.str "a", .tup []], .tup [.non, .tup [.tup [.str "label", .str "b"]]], .tup [.str "b", .tup [.tup [.str "label", .str "a"], .tup [.str "number", .int 0]]], .tup [.str "b", .tup [.tup [.str "label", .str "a"], .tup [.str "number", .int 0]]]], .tup [.tup [.tup [.str "a", .tup []], .tup [.str "b", .tup [.tup [.str "label", .str "a"], .tup [.str "number", .int 0]]], .tup [.str "b", .tup [.tup [.str "label", .str "a"], .tup [.str "number", .int 0]]], .tup [.non, .tup [.tup [.str "label", .str "b"]]]], .tup [.str "move", .int 3, .int 1]]),
  (.tup [.tup [.str "a", .tup []], .tup [.non, .tup [.tup [.str "label", .str "b"]]], .tup [.non, .tup [.tup [.str "label", .str "b"]]], .tup [.str "b", .tup [.tup [.str "label", .str "a"], .tup [.str "number", .int 0]]]], .tup [.tup [.tup [.str "a", .tup []], .tup [.non, .tup [.tup [.str "label", .str "b"]]], .tup [.str "b", .tup [.tup [.str "label", .str "a"], .tup [.str "number", .int 0]]], .tup [.non, .tup [.tup [.str "label", .str "b"]]]], .tup [.str "move", .int 2, .int 3]])]
def lo5 : D := .tup [rw5, .tup [.str "copy", .int 0, .int 0]]
def oi5 : Ob := .ins 5 [lo5, .ref 18]
def od5 : Ob := .dct ro5
def ch6 : D := .tup [.tup [.int 1, .int 1], .tup [.int 2, .int 0]]
def rw6 : D := .tup [.tup [.str "a", .tup []], .tup [.str "b", .tup [.tup [.str "above", .int 1], .tup [.str "label", .str "a"]]], .tup [.non, .tup [.tup [.str "label", .str "b"]]]]
def ro6 : List (D × D) := [(.tup [.tup [.str "a", .tup []], .tup [.str "b", .tup [.tup [.str "above", .int 1], .tup [.str "label", .str "a"]]], .tup [.non, .tup [.tup [.str "label", .str "b"]]]], .non),
  (.tup [.tup [.str "a", .tup []], .tup [.str "b", .tup [.tup [.str "above", .int 1], .tup [.str "label", .str "a"]]], .tup [.str "a", .tup []], .tup [.non, .tup [.tup [.str "label", .str "b"]]]], .tup [.tup [.tup [.str "a", .tup []], .tup [.str "b", .tup [.tup [.str "above", .int 1], .tup [.str "label", .str "a"]]], .tup [.non, .tup [.tup [.str "label", .str "b"]]]], .tup [.str "copy", .int 0, .int 2]]),
  (.tup [.tup [.str "a", .tup []], .tup [.str "b", .tup [.tup [.str "above", .int 1], .tup [.str "label", .str "a"]]], .tup [.non, .tup [.tup [.str "label", .str "b"]]], .tup [.str "a", .tup []]], .tup [.tup [.tup [.str "a", .tup []], .tup [.str "b", .tup [.tup [.str "above", .int 1], .tup [.str "label", .str "a"]]], .tup [.non, .tup [.tup [.str "label", .str "b"]]]], .tup [.str "copy", .int 0, .int 3]]),
  (.tup [.tup [.non, .tup [.tup [.str "label", .str "b"]]], .tup [.str "a", .tup []], .tup [.str "b", .tup [.tup [.str "above", .int 1], .tup [.str "label", .str "a"]]], .tup [.non, .tup [.tup [.str "label", .str "b"]]]], .tup [.tup [.tup [.str "a", .tup []], .tup [.str "b", .tup [.tup [.str "above", .int 1], .tup [.str "label", .str "a"]]], .tup [.non, .tup [.tup [.str "label", .str "b"]]]], .tup [.str "copy", .int 2, .int 0]]),
  (.tup [.tup [.str "a", .tup []], .tup [.str "b", .tup [.tup [.str "above", .int 1], .tup [.str "label", .str "a"]]], .tup [.non, .tup [.tup [.str "label", .str "b"]]], .tup [.non, .tup [.tup [.str "label", .str "b"]]]], .tup [.tup [.tup [.str "a", .tup []], .tup [.str "b", .tup [.tup [.str "above", .int 1], .tup [.str "label", .str "a"]]], .tup [.non, .tup [.tup [.str "label", .str "b"]]]], .tup [.str "copy", .int 2, .int 2]]),
  (.tup [.tup [.non, .tup [.tup [.str "label", .str "b"]]], .tup [.str "a", .tup []], .tup [.str "b", .tup [.tup [.str "above", .int 1], .tup [.str "label", .str "a"]]]], .tup [.tup [.tup [.str "a", .tup []], .tup [.str "b", .tup [.tup [.str "above", .int 1], .tup [.str "label", .str "a"]]], .tup [.non, .tup [.tup [.str "label", .str "b"]]]], .tup [.str "move", .int 2, .int 0]]),
  (.tup [.tup [.non, .tup [.tup [.str "label", .str "b"]]], .tup [.str "a", .tup []], .tup [.str "b", .tup [.tup [.str "above", .int 1], .tup [.str "label", .str "a"]]], .tup [.str "a", .tup []]], .tup [.tup [.tup [.str "a", .tup []], .tup [.str "b", .tup [.tup [.str "above", .int 1], .tup [.str "label", .str "a"]]], .tup [.str "a", .tup []], .tup [.non, .tup [.tup [.str "label", .str "b"]]]], .tup [.str "move", .int 3, .int 0]]),
  (.tup [.tup [.non, .tup [.tup [.str "label", .str "b"]]], .tup [.non, .tup [.tup [.str "label", .str "b"]]], .tup [.str "a", .tup []], .tup [.str "b", .tup [.tup [.str "above", .int 1], .tup [.str "label", .str "a"]]]], .tup [.tup [.tup [.non, .tup [.tup [.str "label", .str "b"]]], .tup [.str "a", .tup []], .tup [.str "b", .tup [.tup [.str "above", .int 1], .tup [.str "label", .str "a"]]], .tup [.non, .tup [.tup [.str "label", .str "b"]]]], .tup [.str "move", .int 3, .int 0]])]
def lo6 : D := .tup [rw6, .tup [.str "copy", .int 0, .int 0]]
def oi6 : Ob := .ins 5 [lo6, .ref 20]
def od6 : Ob := .dct ro6
def ch7 : D := .tup [.tup [.int 1, .int 0], .tup [.int 1, .int 1], .tup [.int 2, .int 0]]
def rw7 : D := .tup [.tup [.str "a", .tup []], .tup [.str "b", .tup [.tup [.str "label", .str "a"], .tup [.str "label", .str "a"]]], .tup [.non, .tup [.tup [.str "label", .str "b"]]]]
def wl7 : List D := [.tup [.tup [.str "a", .tup []], .tup [.str "b", .tup [.tup [.str "label", .str "a"], .tup [.str "label", .str "a"]]], .tup [.non, .tup [.tup [.str "label", .str "b"]]]],
  .tup [.tup [.str "a", .tup []], .tup [.str "a", .tup []], .tup [.str "b", .tup [.tup [.str "label", .str "a"], .tup [.str "label", .str "a"]]], .tup [.non, .tup [.tup [.str "label", .str "b"]]]],
  .tup [.tup [.str "a", .tup []], .tup [.str "b", .tup [.tup [.str "label", .str "a"], .tup [.str "label", .str "a"]]], .tup [.str "a", .tup []], .tup [.non, .tup [.tup [.str "label", .str "b"]]]],
  .tup [.tup [.str "a", .tup []], .tup [.str "b", .tup [.tup [.str "label", .str "a"], .tup [.str "label", .str "a"]]], .tup [.non, .tup [.tup [.str "label", .str "b"]]], .tup [.str "a", .tup []]],
  .tup [.tup [.str "a", .tup []], .tup [.str "b", .tup [.tup [.str "label", .str "a"], .tup [.str "label", .str "a"]]], .tup [.str "b", .tup [.tup [.str "label", .str "a"], .tup [.str "label", .str "a"]]], .tup [.non, .tup [.tup [.str "label", .str "b"]]]],
  .tup [.tup [.str "a", .tup []], .tup [.str "b", .tup [.tup [.str "label", .str "a"], .tup [.str "label", .str "a"]]], .tup [.non, .tup [.tup [.str "label", .str "b"]]], .tup [.str "b", .tup [.tup [.str "label", .str "a"], .tup [.str "label", .str "a"]]]],
  .tup [.tup [.non, .tup [.tup [.str "label", .str "b"]]], .tup [.str "a", .tup []], .tup [.str "b", .tup [.tup [.str "label", .str "a"], .tup [.str "label", .str "a"]]], .tup [.non, .tup [.tup [.str "label", .str "b"]]]],
  .tup [.tup [.str "a", .tup []], .tup [.non, .tup [.tup [.str "label", .str "b"]]], .tup [.str "b", .tup [.tup [.str "label", .str "a"], .tup [.str "label", .str "a"]]], .tup [.non, .tup [.tup [.str "label", .str "b"]]]],
  .tup [.tup [.str "a", .tup []], .tup [.str "b", .tup [.tup [.str "label", .str "a"], .tup [.str "label", .str "a"]]], .tup [.non, .tup [.tup [.str "label", .str "b"]]], .tup [.non, .tup [.tup [.str "label", .str "b"]]]],
  .tup [.tup [.str "b", .tup [.tup [.str "label", .str "a"], .tup [.str "label", .str "a"]]], .tup [.str "a", .tup []], .tup [.non, .tup [.tup [.str "label", .str "b"]]]],
  .tup [.tup [.str "b", .tup [.tup [.str "label", .str "a"], .tup [.str "label", .str "a"]]], .tup [.non, .tup [.tup [.str "label", .str "b"]]], .tup [.str "a", .tup []]],
  .tup [.tup [.str "a", .tup []], .tup [.non, .tup [.tup [.str "label", .str "b"]]], .tup [.str "b", .tup [.tup [.str "label", .str "a"], .tup [.str "label", .str "a"]]]],
  .tup [.tup [.non, .tup [.tup [.str "label", .str "b"]]], .tup [.str "a", .tup []], .tup [.str "b", .tup [.tup [.str "label", .str "a"], .tup [.str "label", .str "a"]]]],
  .tup [.tup [.str "b", .tup [.tup [.str "label", .str "a"], .tup [.str "label", .str "a"]]], .tup [.str "a", .tup []], .tup [.str "a", .tup []], .tup [.non, .tup [.tup [.str "label", .str "b"]]]],
  .tup [.tup [.str "a", .tup []], .tup [.str "a", .tup []], .tup [.non, .tup [.tup [.str "label", .str "b"]]], .tup [.str "b", .tup [.tup [.str "label", .str "a"], .tup [.str "label", .str "a"]]]],
  .tup [.tup [.non, .tup [.tup [.str "label", .str "b"]]], .tup [.str "a", .tup []], .tup [.str "a", .tup []], .tup [.str "b", .tup [.tup [.str "label", .str "a"], .tup [.str "label", .str "a"]]]],
  .tup [.tup [.str "a", .tup []], .tup [.non, .tup [.tup [.str "label", .str "b"]]], .tup [.str "a", .tup []], .tup [.str "b", .tup [.tup [.str "label", .str "a"], .tup [.str "label", .str "a"]]]],
  .tup [.tup [.non, .tup [.tup [.str "label", .str "b"]]], .tup [.str "a", .tup []], .tup [.str "b", .tup [.tup [.str "label", .str "a"], .tup [.str "label", .str "a"]]], .tup [.str "a", .tup []]],
  .tup [.tup [.str "a", .tup []], .tup [.non, .tup [.tup [.str "label", .str "b"]]], .tup [.str "b", .tup [.tup [.str "label", .str "a"], .tup [.str "label", .str "a"]]], .tup [.str "a", .tup []]],
  .tup [.tup [.str "b", .tup [.tup [.str "label", .str "a"], .tup [.str "label", .str "a"]]], .tup [.str "a", .tup []], .tup [.non, .tup [.tup [.str "label", .str "b"]]], .tup [.str "a", .tup []]],
  .tup [.tup [.str "b", .tup [.tup [.str "label", .str "a"], .tup [.str "label", .str "a"]]], .tup [.non, .tup [.tup [.str "label", .str "b"]]], .tup [.str "a", .tup []], .tup [.str "a", .tup []]],
  .tup [.tup [.str "b", .tup [.tup [.str "label", .str "a"], .tup [.str "label", .str "a"]]], .tup [.str "a", .tup []], .tup [.str "b", .tup [.tup [.str "label", .str "a"], .tup [.str "label", .str "a"]]], .tup [.non, .tup [.tup [.str "label", .str "b"]]]],
  .tup [.tup [.str "b", .tup [.tup [.str "label", .str "a"], .tup [.str "label", .str "a"]]], .tup [.str "b", .tup [.tup [.str "label", .str "a"], .tup [.str "label", .str "a"]]], .tup [.str "a", .tup []], .tup [.non, .tup [.tup [.str "label", .str "b"]]]],
  .tup [.tup [.str "b", .tup [.tup [.str "label", .str "a"], .tup [.str "label", .str "a"]]], .tup [.str "b", .tup [.tup [.str "label", .str "a"], .tup [.str "label", .str "a"]]], .tup [.non, .tup [.tup [.str "label", .str "b"]]], .tup [.str "a", .tup []]],
  .tup [.tup [.non, .tup [.tup [.str "label", .str "b"]]], .tup [.str "a", .tup []], .tup [.str "b", .tup [.tup [.str "label", .str "a"], .tup [.str "label", .str "a"]]], .tup [.str "b", .tup [.tup [.str "label", .str "a"], .tup [.str "label", .str "a"]]]],
  .tup [.tup [.str "a", .tup []], .tup [.non, .tup [.tup [.str "label", .str "b"]]], .tup [.str "b", .tup [.tup [.str "label", .str "a"], .tup [.str "label", .str "a"]]], .tup [.str "b", .tup [.tup [.str "label", .str "a"], .tup [.str "label", .str "a"]]]],
  .tup [.tup [.str "b", .tup [.tup [.str "label", .str "a"], .tup [.str "label", .str "a"]]], .tup [.str "a", .tup []], .tup [.non, .tup [.tup [.str "label", .str "b"]]], .tup [.str "b", .tup [.tup [.str "label", .str "a"], .tup [.str "label", .str "a"]]]],
  .tup [.tup [.str "b", .tup [.tup [.str "label", .str "a"], .tup [.str "label", .str "a"]]], .tup [.non, .tup [.tup [.str "label", .str "b"]]], .tup [.str "a", .tup []], .tup [.str "b", .tup [.tup [.str "label", .str "a"], .tup [.str "label", .str "a"]]]],
  .tup [.tup [.str "b", .tup [.tup [.str "label", .str "a"], .tup [.str "label", .str "a"]]], .tup [.non, .tup [.tup [.str "label", .str "b"]]], .tup [.str "b", .tup [.tup [.str "label", .str "a"], .tup [.str "label", .str "a"]]], .tup [.str "a", .tup []]],
  .tup [.tup [.non, .tup [.tup [.str "label", .str "b"]]], .tup [.str "b", .tup [.tup [.str "label", .str "a"], .tup [.str "label", .str "a"]]], .tup [.str "a", .tup []], .tup [.non, .tup [.tup [.str "label", .str "b"]]]],
  .tup [.tup [.non, .tup [.tup [.str "label", .str "b"]]], .tup [.str "b", .tup [.tup [.str "label", .str "a"], .tup [.str "label", .str "a"]]], .tup [.non, .tup [.tup [.str "label", .str "b"]]], .tup [.str "a", .tup []]],
  .tup [.tup [.str "b", .tup [.tup [.str "label", .str "a"], .tup [.str "label", .str "a"]]], .tup [.non, .tup [.tup [.str "label", .str "b"]]], .tup [.str "a", .tup []], .tup [.non, .tup [.tup [.str "label", .str "b"]]]],
  .tup [.tup [.non, .tup [.tup [.str "label", .str "b"]]], .tup [.str "a", .tup []], .tup [.non, .tup [.tup [.str "label", .str "b"]]], .tup [.str "b", .tup [.tup [.str "label", .str "a"], .tup [.str "label", .str "a"]]]],
  .tup [.tup [.non, .tup [.tup [.str "label", .str "b"]]], .tup [.non, .tup [.tup [.str "label", .str "b"]]], .tup [.str "a", .tup []], .tup [.str "b", .tup [.tup [.str "label", .str "a"], .tup [.str "label", .str "a"]]]],
  .tup [.tup [.str "b", .tup [.tup [.str "label", .str "a"], .tup [.str "label", .str "a"]]], .tup [.str "a", .tup []], .tup [.non, .tup [.tup [.str "label", .str "b"]]], .tup [.non, .tup [.tup [.str "label", .str "b"]]]],
  .tup [.tup [.str "a", .tup []], .tup [.non, .tup [.tup [.str "label", .str "b"]]], .tup [.non, .tup [.tup [.str "label", .str "b"]]], .tup [.str "b", .tup [.tup [.str "label", .str "a"], .tup [.str "label", .str "a"]]]],
  .tup [.tup [.str "b", .tup [.tup [.str "label", .str "a"], .tup [.str "label", .str "a"]]], .tup [.non, .tup [.tup [.str "label", .str "b"]]], .tup [.non, .tup [.tup [.str "label", .str "b"]]], .tup [.str "a", .tup []]],
  .tup [.tup [.non, .tup [.tup [.str "label", .str "b"]]], .tup [.str "b", .tup [.tup [.str "label", .str "a"], .tup [.str "label", .str "a"]]], .tup [.str "a", .tup []]],
  .tup [.tup [.non, .tup [.tup [.str "label", .str "b"]]], .tup [.str "b", .tup [.tup [.str "label", .str "a"], .tup [.str "label", .str "a"]]], .tup [.str "a", .tup []], .tup [.str "a", .tup []]],
  .tup [.tup [.non, .tup [.tup [.str "label", .str "b"]]], .tup [.str "b", .tup [.tup [.str "label", .str "a"], .tup [.str "label", .str "a"]]], .tup [.str "a", .tup []], .tup [.str "b", .tup [.tup [.str "label", .str "a"], .tup [.str "label", .str "a"]]]],
  .tup [.tup [.non, .tup [.tup [.str "label", .str "b"]]], .tup [.str "b", .tup [.tup [.str "label", .str "a"], .tup [.str "label", .str "a"]]], .tup [.str "b", .tup [.tup [.str "label", .str "a"], .tup [.str "label", .str "a"]]], .tup [.str "a", .tup []]],
  .tup [.tup [.non, .tup [.tup [.str "label", .str "b"]]], .tup [.non, .tup [.tup [.str "label", .str "b"]]], .tup [.str "b", .tup [.tup [.str "label", .str "a"], .tup [.str "label", .str "a"]]], .tup [.str "a", .tup []]]]
def ro7 : List (D × D) := [(.tup [.tup [.str "a", .tup []], .tup [.str "b", .tup [.tup [.str "label", .str "a"], .tup [.str "label", .str "a"]]], .tup [.non, .tup [.tup [.str "label", .str "b"]]]], .non),
  (.tup [.tup [.str "a", .tup []], .tup [.str "a", .tup []], .tup [.str "b", .tup [.tup [.str "label", .str "a"], .tup [.str "label", .str "a"]]], .tup [.non, .tup [.tup [.str "label", .str "b"]]]], .tup [.tup [.tup [.str "a", .tup []], .tup [.str "b", .tup [.tup [.str "label", .str "a"], .tup [.str "label", .str "a"]]], .tup [.non, .tup [.tup [.str "label", .str "b"]]]], .tup [.str "copy", .int 0, .int 1]]),
  (.tup [.tup [.str "a", .tup []], .tup [.str "b", .tup [.tup [.str "label", .str "a"], .tup [.str "label", .str "a"]]], .tup [.str "a", .tup []], .tup [.non, .tup [.tup [.str "label", .str "b"]]]], .tup [.tup [.tup [.str "a", .tup []], .tup [.str "b", .tup [.tup [.str "label", .str "a"], .tup [.str "label", .str "a"]]], .tup [.non, .tup [.tup [.str "label", .str "b"]]]], .tup [.str "copy", .int 0, .int 2]]),
  (.tup [.tup [.str "a", .tup []], .tup [.str "b", .tup [.tup [.str "label", .str "a"], .tup [.str "label", .str "a"]]], .tup [.non, .tup [.tup [.str "label", .str "b"]]], .tup [.str "a", .tup []]], .tup [.tup [.tup [.str "a", .tup []], .tup [.str "b", .tup [.tup [.str "label", .str "a"], .tup [.str "label", .str "a"]]], .tup [.non, .tup [.tup [.str "label", .str "b"]]]], .tup [.str "copy", .int 0, .int 3]]),
  (.tup [.tup [.str "a", .tup []], .tup [.str "b", .tup [.tup [.str "label", .str "a"], .tup [.str "label", .str "a"]]], .tup [.str "b", .tup [.tup [.str "label", .str "a"], .tup [.str "label", .str "a"]]], .tup [.non, .tup [.tup [.str "label", .str "b"]]]], .tup [.tup [.tup [.str "a", .tup []], .tup [.str "b", .tup [.tup [.str "label", .str "a"], .tup [.str "label", .str "a"]]], .tup [.non, .tup [.tup [.str "label", .str "b"]]]], .tup [.str "copy", .int 1, .int 2]]),
  (.tup [.tup [.str "a", .tup []], .tup [.str "b", .tup [.tup [.str "label", .str "a"], .tup [.str "label", .str "a"]]], .tup [.non, .tup [.tup [.str "label", .str "b"]]], .tup [.str "b", .tup [.tup [.str "label", .str "a"], .tup [.str "label", .str "a"]]]], .tup [.tup [.tup [.str "a", .tup []], .tup [.str "b", .tup [.tup [.str "label", .str "a"], .tup [.str "label", .str "a"]]], .tup [.non, .tup [.tup [.str "label", .str "b"]]]], .tup [.str "copy", .int 1, .int 3]]),
  (.tup [.tup [.non, .tup [.tup [.str "label", .str "b"]]], .tup [.str "a", .tup []], .tup [.str "b", .tup [.tup [.str "label", .str "a"], .tup [.str "label", .str "a"]]], .tup [.non, .tup [.tup [.str "label", .str "b"]]]], .tup [.tup [.tup [.str "a", .tup []], .tup [.str "b", .tup [.tup [.str "label", .str "a"], .tup [.str "label", .str "a"]]], .tup [.non, .tup [.tup [.str "label", .str "b"]]]], .tup [.str "copy", .int 2, .int 0]]),
  (.tup [.tup [.str "a", .tup []], .tup [.non, .tup [.tup [.str "label", .str "b"]]], .tup [.str "b", .tup [.tup [.str "label", .str "a"], .tup [.str "label", .str "a"]]], .tup [.non, .tup [.tup [.str "label", .str "b"]]]], .tup [.tup [.tup [.str "a", .tup []], .tup [.str "b", .tup [.tup [.str "label", .str "a"], .tup [.str "label", .str "a"]]], .tup [.non, .tup [.tup [.str "label", .str "b"]]]], .tup [.str "copy", .int 2, .int 1]]),
  (.tup [.tup [.str "a", .tup []], .tup [.str "b", .tup [.tup [.str "label", .str "a"], .tup [.str "label", .str "a"]]], .tup [.non, .tup [.tup [.str "label", .str "b"]]], .tup [.non, .tup [.tup [.str "label", .str "b"]]]], .tup [.tup [.tup [.str "a", .tup []], .tup [.str "b", .tup [.tup [.str "label", .str "a"], .tup [.str "label", .str "a"]]], .tup [.non, .tup [.tup [.str "label", .str "b"]]]], .tup [.str "copy", .int 2, .int 2]]),
  (.tup [.tup [.str "b", .tup [.tup [.str "label", .str "a"], .tup [.str "label", .str "a"]]], .tup [.str "a", .tup []], .tup [.non, .tup [.tup [.str "label", .str "b"]]]], .tup [.tup [.tup [.str "a", .tup []], .tup [.str "b", .tup [.tup [.str "label", .str "a"], .tup [.str "label", .str "a"]]], .tup [.non, .tup [.tup [.str "label", .str "b"]]]], .tup [.str "move", .int 0, .int 1]]),
  (.tup [.tup [.str "b", .tup [.tup [.str "label", .str "a"], .tup [.str "label", .str "a"]]], .tup [.non, .tup [.tup [.str "label", .str "b"]]], .tup [.str "a", .tup []]], .tup [.tup [.tup [.str "a", .tup []], .tup [.str "b", .tup [.tup [.str "label", .str "a"], .tup [.str "label", .str "a"]]], .tup [.non, .tup [.tup [.str "label", .str "b"]]]], .tup [.str "move", .int 0, .int 2]]),
  (.tup [.tup [.str "a", .tup []], .tup [.non, .tup [.tup [.str "label", .str "b"]]], .tup [.str "b", .tup [.tup [.str "label", .str "a"], .tup [.str "label", .str "a"]]]], .tup [.tup [.tup [.str "a", .tup []], .tup [.str "b", .tup [.tup [.str "label", .str "a"], .tup [.str "label", .str "a"]]], .tup [.non, .tup [.tup [.str "label", .str "b"]]]], .tup [.str "move", .int 1, .int 2]]),
  (.tup [.tup [.non, .tup [.tup [.str "label", .str "b"]]], .tup [.str "a", .tup []], .tup [.str "b", .tup [.tup [.str "label", .str "a"], .tup [.str "label", .str "a"]]]], .tup [.tup [.tup [.str "a", .tup []], .tup [.str "b", .tup [.tup [.str "label", .str "a"], .tup [.str "label", .str "a"]]], .tup [.non, .tup [.tup [.str "label", .str "b"]]]], .tup [.str "move", .int 2, .int 0]]),
  (.tup [.tup [.str "b", .tup [.tup [.str "label", .str "a"], .tup [.str "label", .str "a"]]], .tup [.str "a", .tup []], .tup [.str "a", .tup []], .tup [.non, .tup [.tup [.str "label", .str "b"]]]], .tup [.tup [.tup [.str "a", .tup []], .tup [.str "a", .tup []], .tup [.str "b", .tup [.tup [.str "label", .str "a"], .tup [.str "label", .str "a"]]], .tup [.non, .tup [.tup [.str "label", .str "b"]]]], .tup [.str "move", .int 2, .int 0]]),
  (.tup [.tup [.str "a", .tup []], .tup [.str "a", .tup []], .tup [.non, .tup [.tup [.str "label", .str "b"]]], .tup [.str "b", .tup [.tup [.str "label", .str "a"], .tup [.str "label", .str "a"]]]], .tup [.tup [.tup [.str "a", .tup []], .tup [.str "a", .tup []], .tup [.str "b", .tup [.tup [.str "label", .str "a"], .tup [.str "label", .str "a"]]], .tup [.non, .tup [.tup [.str "label", .str "b"]]]], .tup [.str "move", .int 2, .int 3]]),
  (.tup [.tup [.non, .tup [.tup [.str "label", .str "b"]]], .tup [.str "a", .tup []], .tup [.str "a", .tup []], .tup [.str "b", .tup [.tup [.str "label", .str "a"], .tup [.str "label", .str "a"]]]], .tup [.tup [.tup [.str "a", .tup []], .tup [.str "a", .tup []], .tup [.str "b", .tup [.tup [.str "label", .str "a"], .tup [.str "label", .str "a"]]], .tup [.non, .tup [.tup [.str "label", .str "b"]]]], .tup [.str "move", .int 3, .int 0]]),
  (.tup [.tup [.str "a", .tup []], .tup [.non, .tup [.tup [.str "label", .str "b"]]], .tup [.str "a", .tup []], .tup [.str "b", .tup [.tup [.str "label", .str "a"], .tup [.str "label", .str "a"]]]], .tup [.tup [.tup [.str "a", .tup []], .tup [.str "a", .tup []], .tup [.str "b", .tup [.tup [.str "label", .str "a"], .tup [.str "label", .str "a"]]], .tup [.non, .tup [.tup [.str "label", .str "b"]]]], .tup [.str "move", .int 3, .int 1]]),
  (.tup [.tup [.non, .tup [.tup [.str "label", .str "b"]]], .tup [.str "a", .tup []], .tup [.str "b", .tup [.tup [.str "label", .str "a"], .tup [.str "label", .str "a"]]], .tup [.str "a", .tup []]], .tup [.tup [.tup [.str "a", .tup []], .tup [.str "b", .tup [.tup [.str "label", .str "a"], .tup [.str "label", .str "a"]]], .tup [.str "a", .tup []], .tup [.non, .tup [.tup [.str "label", .str "b"]]]], .tup [.str "move", .int 3, .int 0]]),
  (.tup [.tup [.str "a", .tup []], .tup [.non, .tup [.tup [.str "label", .str "b"]]], .tup [.str "b", .tup [.tup [.str "label", .str "a"], .tup [.str "label", .str "a"]]], .tup [.str "a", .tup []]], .tup [.tup [.tup [.str "a", .tup []], .tup [.str "b", .tup [.tup [.str "label", .str "a"], .tup [.str "label", .str "a"]]], .tup [.str "a", .tup []], .tup [.non, .tup [.tup [.str "label", .str "b"]]]], .tup [.str "move", .int 3, .int 1]]),
  (.tup [.tup [.str "b", .tup [.tup [.str "label", .str "a"], .tup [.str "label", .str "a"]]], .tup [.str "a", .tup []], .tup [.non, .tup [.tup [.str "label", .str "b"]]], .tup [.str "a", .tup []]], .tup [.tup [.tup [.str "a", .tup []], .tup [.str "b", .tup [.tup [.str "label", .str "a"], .tup [.str "label", .str "a"]]], .tup [.non, .tup [.tup [.str "label", .str "b"]]], .tup [.str "a", .tup []]], .tup [.str "move", .int 0, .int 1]]),
  (.tup [.tup [.str "b", .tup [.tup [.str "label", .str "a"], .tup [.str "label", .str "a"]]], .tup [.non, .tup [.tup [.str "label", .str "b"]]], .tup [.str "a", .tup []], .tup [.str "a", .tup []]], .tup [.tup [.tup [.str "a", .tup []], .tup [.str "b", .tup [.tup [.str "label", .str "a"], .tup [.str "label", .str "a"]]], .tup [.non, .tup [.tup [.str "label", .str "b"]]], .tup [.str "a", .tup []]], .tup [.str "move", .int 0, .int 2]]),
  (.tup [.tup [.str "b", .tup [.tup [.str "label", .str "a"], .tup [.str "label", .str "a"]]], .tup [.str "a", .tup []], .tup [.str "b", .tup [.tup [.str "label", .str "a"], .tup [.str "label", .str "a"]]], .tup [.non, .tup [.tup [.str "label", .str "b"]]]], .tup [.tup [.tup [.str "a", .tup []], .tup [.str "b", .tup [.tup [.str "label", .str "a"], .tup [.str "label", .str "a"]]], .tup [.str "b", .tup [.tup [.str "label", .str "a"], .tup [.str "label", .str "a"]]], .tup [.non, .tup [.tup [.str "label", .str "b"]]]], .tup [.str "move", .int 0, .int 1]]),
  (.tup [.tup [.str "b", .tup [.tup [.str "label", .str "a"], .tup [.str "label", .str "a"]]], .tup [.str "b", .tup [.tup [.str "label", .str "a"], .tup [.str "label", .str "a"]]], .tup [.str "a", .tup []], .tup [.non, .tup [.tup [.str "label", .str "b"]]]], .tup [.tup [.tup [.str "a", .tup []], .tup [.str "b", .tup [.tup [.str "label", .str "a"], .tup [.str "label", .str "a"]]], .tup [.str "b", .tup [.tup [.str "label", .str "a"], .tup [.str "label", .str "a"]]], .tup [.non, .tup [.tup [.str "label", .str "b"]]]], .tup [.str "move", .int 0, .int 2]]),
  (.tup [.tup [.str "b", .tup [.tup [.str "label", .str "a"], .tup [.str "label", .str "a"]]], .tup [.str "b", .tup [.tup [.str "label", .str "a"], .tup [.str "label", .str "a"]]], .tup [.non, .tup [.tup [.str "label", .str "b"]]], .tup [.str "a", .tup []]], .tup [.tup [.tup [.str "a", .tup []], .tup [.str "b", .tup [.tup [.str "label", .str "a"], .tup [.str "label", .str "a"]]], .tup [.str "b", .tup [.tup [.str "label", .str "a"], .tup [.str "label", .str "a"]]], .tup [.non, .tup [.tup [.str "label", .str "b"]]]], .tup [.str "move", .int 0, .int 3]]),
  (.tup [.tup [.non, .tup [.tup [.str "label", .str "b"]]], .tup [.str "a", .tup []], .tup [.str "b", .tup [.tup [.str "label", .str "a"], .tup [.str "label", .str "a"]]], .tup [.str "b", .tup [.tup [.str "label", .str "a"], .tup [.str "label", .str "a"]]]], .tup [.tup [.tup [.str "a", .tup []], .tup [.str "b", .tup [.tup [.str "label", .str "a"], .tup [.str "label", .str "a"]]], .tup [.str "b", .tup [.tup [.str "label", .str "a"], .tup [.str "label", .str "a"]]], .tup [.non, .tup [.tup [.str "label", .str "b"]]]], .tup [.str "move", .int 3, .int 0]]),
  (.tup [.tup [.str "a", .tup []], .tup [.non, .tup [.tup [.str "label", .str "b"]]], .tup [.str "b", .tup [.tup [.str "label", .str "a"], .tup [.str "label", .str "a"]]], .tup [.str "b", .tup [.tup [.str "label", .str "a"], .tup [.str "label", .str "a"]]]], .tup [.tup [.tup [.str "a", .tup []], .tup [.str "b", .tup [.tup [.str "label", .str "a"], .tup [.str "label", .str "a"]]], .tup [.str "b", .tup [.tup [.str "label", .str "a"], .tup [.str "label", .str "a"]]], .tup [.non, .tup [.tup [.str "label", .str "b"]]]], .tup [.str "move", .int 3, .int 1]]),
  (.tup [.tup [.str "b", .tup [.tup [.str "label", .str "a"], .tup [.str "label", .str "a"]]], .tup [.str "a", .tup []], .tup [.non, .tup [.tup [.str "label", .str "b"]]], .tup [.str "b", .tup [.tup [.str "label", .str "a"], .tup [.str "label", .str "a"]]]], .tup [.tup [.tup [.str "a", .tup []], .tup [.str "b", .tup [.tup [.str "label", .str "a"], .tup [.str "label", .str "a"]]], .tup [.non, .tup [.tup [.str "label", .str "b"]]], .tup [.str "b", .tup [.tup [.str "label", .str "a"], .tup [.str "label", .str "a"]]]], .tup [.str "move", .int 0, .int 1]]),
  (.tup [.tup [.str "b", .tup [.tup [.str "label", .str "a"], .tup [.str "label", .str "a"]]], .tup [.non, .tup [.tup [.str "label", .str "b"]]], .tup [.str "a", .tup []], .tup [.str "b", .tup [.tup [.str "label", .str "a"], .tup [.str "label", .str "a"]]]], .tup [.tup [.tup [.str "a", .tup []], .tup [.str "b", .tup [.tup [.str "label", .str "a"], .tup [.str "label", .str "a"]]], .tup [.non, .tup [.tup [.str "label", .str "b"]]], .tup [.str "b", .tup [.tup [.str "label", .str "a"], .tup [.str "label", .str "a"]]]], .tup [.str "move", .int 0, .int 2]]),
  (.tup [.tup [.str "b", .tup [.tup [.str "label", .str "a"], .tup [.str "label", .str "a"]]], .tup [.non, .tup [.tup [.str "label", .str "b"]]], .tup [.str "b", .tup [.tup [.str "label", .str "a"], .tup [.str "label", .str "a"]]], .tup [.str "a", .tup []]], .tup [.tup [.tup [.str "a", .tup []], .tup [.str "b", .tup [.tup [.str "label", .str "a"], .tup [.str "label", .str "a"]]], .tup [.non, .tup [.tup [.str "label", .str "b"]]], .tup [.str "b", .tup [.tup [.str "label", .str "a"], .tup [.str "label", .str "a"]]]], .tup [.str "move", .int 0, .int 3]]),
  (.tup [.tup [.non, .tup [.tup [.str "label", .str "b"]]], .tup [.str "b", .tup [.tup [.str "label", .str "a"], .tup [.str "label", .str "a"]]], .tup [.str "a", .tup []], .tup [.non, .tup [.tup [.str "label", .str "b"]]]], .tup [.tup [.tup [.non, .tup [.tup [.str "label", .str "b"]]], .tup [.str "a", .tup []], .tup [.str "b", .tup [.tup [.str "label", .str "a"], .tup [.str "label", .str "a"]]], .tup [.non, .tup [.tup [.str "label", .str "b"]]]], .tup [.str "move", .int 1, .int 2]]),
  (.tup [.tup [.non, .tup [.tup [.str "label", .str "b"]]], .tup [.str "b", .tup [.tup [.str "label", .str "a"], .tup [.str "label", .str "a"]]], .tup [.non, .tup [.tup [.str "label", .str "b"]]], .tup [.str "a", .tup []]], .tup [.tup [.tup [.non, .tup [.tup [.str "label", .str "b"]]], .tup [.str "a", .tup []], .tup [.str "b", .tup [.tup [.str "label", .str "a"], .tup [.str "label", .str "a"]]], .tup [.non, .tup [.tup [.str "label", .str "b"]]]], .tup [.str "move", .int 1, .int 3]]),
  (.tup [.tup [.str "b", .tup [.tup [.str "label", .str "a"], .tup [.str "label", .str "a"]]], .tup [.non, .tup [.tup [.str "label", .str "b"]]], .tup [.str "a", .tup []], .tup [.non, .tup [.tup [.str "label", .str "b"]]]], .tup [.tup [.tup [.non, .tup [.tup [.str "label", .str "b"]]], .tup [.str "a", .tup []], .tup [.str "b", .tup [.tup [.str "label", .str "a"], .tup [.str "label", .str "a"]]], .tup [.non, .tup [.tup [.str "label", .str "b"]]]], .tup [.str "move", .int 2, .int 0]]),
  (.tup [.tup [.non, .tup [.tup [.str "label", .str "b"]]], .tup [.str "a", .tup []], .tup [.non, .tup [.tup [.str "label", .str "b"]]], .tup [.str "b", .tup [.tup [.str "label", .str "a"], .tup [.str "label", .str "a"]]]], .tup [.tup [.tup [.non, .tup [.tup [.str "label", .str "b"]]], .tup [.str "a", .tup []], .tup [.str "b", .tup [.tup [.str "label", .str "a"], .tup [.str "label", .str "a"]]], .tup [.non, .tup [.tup [.str "label", .str "b"]]]], .tup [.str "move", .int 2, .int 3]]),
  (.tup [.tup [.non, .tup [.tup [.str "label", .str "b"]]], .tup [.non, .tup [.tup [.str "label", .str "b"]]], .tup [.str "a", .tup []], .tup [.str "b", .tup [.tup [.str "label", .str "a"], .tup [.str "label", .str "a"]]]], .tup [.tup [.tup [.non, .tup [.tup [.str "label", .str "b"]]], .tup [.str "a", .tup []], .tup [.str "b", .tup [.tup [.str "label", .str "a"], .tup [.str "label", .str "a"]]], .tup [.non, .tup [.tup [.str "label", .str "b"]]]], .tup [.str "move", .int 3, .int 0]]),
  (.tup [.tup [.str "b", .tup [.tup [.str "label", .str "a"], .tup [.str "label", .str "a"]]], .tup [.str "a", .tup []], .tup [.non, .tup [.tup [.str "label", .str "b"]]], .tup [.non, .tup [.tup [.str "label", .str "b"]]]], .tup [.tup [.tup [.str "a", .tup []], .tup [.non, .tup [.tup [.str "label", .str "b"]]], .tup [.str "b", .tup [.tup [.str "label", .str "a"], .tup [.str "label", .str "a"]]], .tup [.non, .tup [.tup [.str "label", .str "b"]]]], .tup [.str "move", .int 2, .int 0]]),
  (.tup [.tup [.str "a", .tup []], .tup [.non, .tup [.tup [.str "label", .str "b"]]], .tup [.non, .tup [.tup [.str "label", .str "b"]]], .tup [.str "b", .tup [.tup [.str "label", .str "a"], .tup [.str "label", .str "a"]]]], .tup [.tup [.tup [.str "a", .tup []], .tup [.non, .tup [.tup [.str "label", .str "b"]]], .tup [.str "b", .tup [.tup [.str "label", .str "a"], .tup [.str "label", .str "a"]]], .tup [.non, .tup [.tup [.str "label", .str "b"]]]], .tup [.str "move", .int 2, .int 3]]),
  (.tup [.tup [.str "b", .tup [.tup [.str "label", .str "a"], .tup [.str "label", .str "a"]]], .tup [.non, .tup [.tup [.str "label", .str "b"]]], .tup [.non, .tup [.tup [.str "label", .str "b"]]], .tup [.str "a", .tup []]], .tup [.tup [.tup [.str "a", .tup []], .tup [.str "b", .tup [.tup [.str "label", .str "a"], .tup [.str "label", .str "a"]]], .tup [.non, .tup [.tup [.str "label", .str "b"]]], .tup [.non, .tup [.tup [.str "label", .str "b"]]]], .tup [.str "move", .int 0, .int 3]]),
  (.tup [.tup [.non, .tup [.tup [.str "label", .str "b"]]], .tup [.str "b", .tup [.tup [.str "label", .str "a"], .tup [.str "label", .str "a"]]], .tup [.str "a", .tup []]], .tup [.tup [.tup [.str "b", .tup [.tup [.str "label", .str "a"], .tup [.str "label", .str "a"]]], .tup [.str "a", .tup []], .tup [.non, .tup [.tup [.str "label", .str "b"]]]], .tup [.str "move", .int 2, .int 0]]),
  (.tup [.tup [.non, .tup [.tup [.str "label", .str "b"]]], .tup [.str "b", .tup [.tup [.str "label", .str "a"], .tup [.str "label", .str "a"]]], .tup [.str "a", .tup []], .tup [.str "a", .tup []]], .tup [.tup [.tup [.str "b", .tup [.tup [.str "label", .str "a"], .tup [.str "label", .str "a"]]], .tup [.str "a", .tup []], .tup [.str "a", .tup []], .tup [.non, .tup [.tup [.str "label", .str "b"]]]], .tup [.str "move", .int 3, .int 0]]),
  (.tup [.tup [.non, .tup [.tup [.str "label", .str "b"]]], .tup [.str "b", .tup [.tup [.str "label", .str "a"], .tup [.str "label", .str "a"]]], .tup [.str "a", .tup []], .tup [.str "b", .tup [.tup [.str "label", .str "a"], .tup [.str "label", .str "a"]]]], .tup [.tup [.tup [.str "b", .tup [.tup [.str "label", .str "a"], .tup [.str "label", .str "a"]]], .tup [.str "a", .tup []], .tup [.str "b", .tup [.tup [.str "label", .str "a"], .tup [.str "label", .str "a"]]], .tup [.non, .tup [.tup [.str "label", .str "b"]]]], .tup [.str "move", .int 3, .int 0]]),
  (.tup [.tup [.non, .tup [.tup [.str "label", .str "b"]]], .tup [.str "b", .tup [.tup [.str "label", .str "a"], .tup [.str "label", .str "a"]]], .tup [.str "b", .tup [.tup [.str "label", .str "a"], .tup [.str "label", .str "a"]]], .tup [.str "a", .tup []]], .tup [.tup [.tup [.str "b", .tup [.tup [.str "label", .str "a"], .tup [.str "label", .str "a"]]], .tup [.str "b", .tup [.tup [.str "label", .str "a"], .tup [.str "label", .str "a"]]], .tup [.str "a", .tup []], .tup [.non, .tup [.tup [.str "label", .str "b"]]]], .tup [.str "move", .int 3, .int 0]]),
  (.tup [.tup [.non, .tup [.tup [.str "label", .str "b"]]], .tup [.non, .tup [.tup [.str "label", .str "b"]]], .tup [.str "b", .tup [.tup [.str "label", .str "a"], .tup [.str "label", .str "a"]]], .tup [.str "a", .tup []]], .tup [.tup [.tup [.non, .tup [.tup [.str "label", .str "b"]]], .tup [.str "b", .tup [.tup [.str "label", .str "a"], .tup [.str "label", .str "a"]]], .tup [.str "a", .tup []], .tup [.non, .tup [.tup [.str "label", .str "b"]]]], .tup [.str "move", .int 3, .int 0]])]
def lo7 : D := .tup [rw7, .tup [.str "copy", .int 0, .int 0]]
def oi7 : Ob := .ins 5 [lo7, .ref 22]
def od7 : Ob := .dct ro7
end Pu

/-! text: K3 -/
set_option Elab.async false
set_option linter.all false
set_option maxRecDepth 100000
set_option maxHeartbeats 0
namespace Pu
open PySem PySem.Spec L2 Sm Wk

theorem an0 (z0 z1 z2 z3 z4 z5 z6 z7 : Ob) : m_answer_for [pWorse, rw0] [z0, z1, z2, z3, z4, z5, z6, z7] = .ok astC [z0, z1, z2, z3, z4, z5, z6, z7, od0, oi0] := by kernel_rfl
theorem an1 (z0 z1 z2 z3 z4 z5 z6 z7 z8 z9 : Ob) : m_answer_for [pWorse, rw1] [z0, z1, z2, z3, z4, z5, z6, z7, z8, z9] = .ok astC [z0, z1, z2, z3, z4, z5, z6, z7, z8, z9, od1, oi1] := by kernel_rfl
theorem an2 (z0 z1 z2 z3 z4 z5 z6 z7 z8 z9 z10 z11 : Ob) : m_answer_for [pWorse, rw2] [z0, z1, z2, z3, z4, z5, z6, z7, z8, z9, z10, z11] = .ok astC [z0, z1, z2, z3, z4, z5, z6, z7, z8, z9, z10, z11, od2, oi2] := by kernel_rfl
theorem an3 (z0 z1 z2 z3 z4 z5 z6 z7 z8 z9 z10 z11 z12 z13 : Ob) : m_answer_for [pWorse, rw3] [z0, z1, z2, z3, z4, z5, z6, z7, z8, z9, z10, z11, z12, z13] = .ok astC [z0, z1, z2, z3, z4, z5, z6, z7, z8, z9, z10, z11, z12, z13, od3, oi3] := by kernel_rfl
theorem an4 (z0 z1 z2 z3 z4 z5 z6 z7 z8 z9 z10 z11 z12 z13 z14 z15 : Ob) : m_answer_for [pWorse, rw4] [z0, z1, z2, z3, z4, z5, z6, z7, z8, z9, z10, z11, z12, z13, z14, z15] = .ok astC [z0, z1, z2, z3, z4, z5, z6, z7, z8, z9, z10, z11, z12, z13, z14, z15, od4, oi4] := by kernel_rfl
theorem an5 (z0 z1 z2 z3 z4 z5 z6 z7 z8 z9 z10 z11 z12 z13 z14 z15 z16 z17 : Ob) : m_answer_for [pWorse, rw5] [z0, z1, z2, z3, z4, z5, z6, z7, z8, z9, z10, z11, z12, z13, z14, z15, z16, z17] = .ok astC [z0, z1, z2, z3, z4, z5, z6, z7, z8, z9, z10, z11, z12, z13, z14, z15, z16, z17, od5, oi5] := by kernel_rfl
theorem an6 (z0 z1 z2 z3 z4 z5 z6 z7 z8 z9 z10 z11 z12 z13 z14 z15 z16 z17 z18 z19 : Ob) : m_answer_for [pWorse, rw6] [z0, z1, z2, z3, z4, z5, z6, z7, z8, z9, z10, z11, z12, z13, z14, z15, z16, z17, z18, z19] = .ok astC [z0, z1, z2, z3, z4, z5, z6, z7, z8, z9, z10, z11, z12, z13, z14, z15, z16, z17, z18, z19, od6, oi6] := by kernel_rfl
end Pu

/-! text: K4 -/
set_option Elab.async false
set_option linter.all false
set_option maxRecDepth 100000
set_option maxHeartbeats 0
namespace Pu
open PySem PySem.Spec L2 Sm Wk

def wi0 : Sm.Env → M Out := (fun ρ => bd (bd (vl ρ 2) fun k => bd (rt .non) fun v => newT1 k v) fun v => selfM 5 1 ρ v)
def wi1 : Sm.Env → M Out := (fun ρ => bd (rt .non) fun v => selfM 5 0 ρ v)
def wi2 : Sm.Env → M Out := (parS [3, 4] 2 fun ρ => (bd (lstM (consM (vl ρ 2) (rt []))) fun ds => bd (bd (rt (.int 0)) fun d => bd (rt []) fun ss => rt (.val d :: ss)) fun ss => rt (.own ds :: ss)))
def wT : Sm.Env → M Bool := (fun ρ => (boolT (o2 ltI (vb ρ 4) (c1 lenD (consM (vb ρ 3) (rt []))))))
def wB : Sm.Env → M Out := (seqS (setV 5 fun ρ => (o2 ixD (vb ρ 3) (vb ρ 4)))
  (seqS (augM 4 (fun i k => i + k) fun ρ => (rt (.int 1)))
  (fun ρ => bd (bd (bd (consM (vl ρ 1) (consM (vl ρ 5) (rt []))) fun ds => callM 2 m_all_allowed ds) seqM) fun ds => forM (.one 6) (seqS (asgT (.tup [7, 8]) fun ρ => (bd (consM (bd (bd (vl ρ 1) fun d => bd (insM 2 d) fun d => noX (callM 1 m_Plan_way [d])) fun d => bd (insM 1 d) fun d => noX (callM 1 m_Way_words [d])) (consM (vl ρ 5) (consM (vl ρ 6) (rt [])))) fun ds => callM 3 m_edited ds))
  (fun ρ => bd (boolT (o2 neD (vb ρ 8) (bd (lstM (rt [])) fun ds => rt (.lst ds)))) fun t => iteM t ((fun ρ => bd (bd (boolT (bd (selfG 5 0 ρ) fun x => op1 (isN false) x)) fun t => iteM t (tupM (consM (vl ρ 5) (consM (vl ρ 6) (rt [])))) (selfG 5 0 ρ)) fun v => selfM 5 0 ρ v) ρ) ((fun ρ => bd (boolT (o2 (inT true) (vb ρ 7) (selfG 5 1 ρ))) fun t => iteM t ((seqS (fun ρ => bd (boolT (o2 eqD (c1 lenX (consM (selfG 5 1 ρ) (rt []))) (rt (.int 400)))) fun t => iteM t ((fun _ => thr 9 []) ρ) (nextS ρ))
  (seqS (fun ρ => bd (tupM (consM (vl ρ 5) (consM (vl ρ 6) (rt [])))) fun v => bd (selfG 5 1 ρ) fun x => bd (vl ρ 7) fun y => putT x y v ρ)
  (appS 3 fun ρ => (vl ρ 7)))) ρ) (nextS ρ)) ρ))) ds ρ)))
theorem wi_eq : b_Web_init = seqS wi0 (seqS wi1 (seqS wi2 fun ρ => whM wT wB 402 ρ)) := rfl
theorem pc0 (z0 z1 z2 z3 z4 z5 z6 z7 z8 z9 z10 z11 z12 z13 z14 z15 z16 z17 z18 z19 z20 z21 : Ob) : itM wT wB 3 [.ownI 5 [some .non, some (.ref 22)], .val pWorse, .val rw7, .own [rw7], .val (.int 0), .no, .no, .no, .no] [z0, z1, z2, z3, z4, z5, z6, z7, z8, z9, z10, z11, z12, z13, z14, z15, z16, z17, z18, z19, z20, z21, .dct [(rw7, .non)]] = .ok [.ownI 5 [some lo7, some (.ref 22)], .val pWorse, .val rw7, .own (wl7.take 19), .val (.int 3), .val (.tup [.tup [.str "a", .tup []], .tup [.str "b", .tup [.tup [.str "label", .str "a"], .tup [.str "label", .str "a"]]], .tup [.str "a", .tup []], .tup [.non, .tup [.tup [.str "label", .str "b"]]]]), .val (.tup [.str "move", .int 3, .int 2]), .val (.tup [.tup [.str "a", .tup []], .tup [.str "b", .tup [.tup [.str "label", .str "a"], .tup [.str "label", .str "a"]]], .tup [.non, .tup [.tup [.str "label", .str "b"]]], .tup [.str "a", .tup []]]), .val (.lst [])] [z0, z1, z2, z3, z4, z5, z6, z7, z8, z9, z10, z11, z12, z13, z14, z15, z16, z17, z18, z19, z20, z21, .dct (ro7.take 19)] := by kernel_rfl
theorem pc3 (z0 z1 z2 z3 z4 z5 z6 z7 z8 z9 z10 z11 z12 z13 z14 z15 z16 z17 z18 z19 z20 z21 : Ob) : itM wT wB 3 [.ownI 5 [some lo7, some (.ref 22)], .val pWorse, .val rw7, .own (wl7.take 19), .val (.int 3), .val (.tup [.tup [.str "a", .tup []], .tup [.str "b", .tup [.tup [.str "label", .str "a"], .tup [.str "label", .str "a"]]], .tup [.str "a", .tup []], .tup [.non, .tup [.tup [.str "label", .str "b"]]]]), .val (.tup [.str "move", .int 3, .int 2]), .val (.tup [.tup [.str "a", .tup []], .tup [.str "b", .tup [.tup [.str "label", .str "a"], .tup [.str "label", .str "a"]]], .tup [.non, .tup [.tup [.str "label", .str "b"]]], .tup [.str "a", .tup []]]), .val (.lst [])] [z0, z1, z2, z3, z4, z5, z6, z7, z8, z9, z10, z11, z12, z13, z14, z15, z16, z17, z18, z19, z20, z21, .dct (ro7.take 19)] = .ok [.ownI 5 [some lo7, some (.ref 22)], .val pWorse, .val rw7, .own (wl7.take 29), .val (.int 6), .val (.tup [.tup [.str "a", .tup []], .tup [.str "b", .tup [.tup [.str "label", .str "a"], .tup [.str "label", .str "a"]]], .tup [.non, .tup [.tup [.str "label", .str "b"]]], .tup [.str "b", .tup [.tup [.str "label", .str "a"], .tup [.str "label", .str "a"]]]]), .val (.tup [.str "move", .int 3, .int 2]), .val (.tup [.tup [.str "a", .tup []], .tup [.str "b", .tup [.tup [.str "label", .str "a"], .tup [.str "label", .str "a"]]], .tup [.str "b", .tup [.tup [.str "label", .str "a"], .tup [.str "label", .str "a"]]], .tup [.non, .tup [.tup [.str "label", .str "b"]]]]), .val (.lst [])] [z0, z1, z2, z3, z4, z5, z6, z7, z8, z9, z10, z11, z12, z13, z14, z15, z16, z17, z18, z19, z20, z21, .dct (ro7.take 29)] := by kernel_rfl
theorem pc6 (z0 z1 z2 z3 z4 z5 z6 z7 z8 z9 z10 z11 z12 z13 z14 z15 z16 z17 z18 z19 z20 z21 : Ob) : itM wT wB 3 [.ownI 5 [some lo7, some (.ref 22)], .val pWorse, .val rw7, .own (wl7.take 29), .val (.int 6), .val (.tup [.tup [.str "a", .tup []], .tup [.str "b", .tup [.tup [.str "label", .str "a"], .tup [.str "label", .str "a"]]], .tup [.non, .tup [.tup [.str "label", .str "b"]]], .tup [.str "b", .tup [.tup [.str "label", .str "a"], .tup [.str "label", .str "a"]]]]), .val (.tup [.str "move", .int 3, .int 2]), .val (.tup [.tup [.str "a", .tup []], .tup [.str "b", .tup [.tup [.str "label", .str "a"], .tup [.str "label", .str "a"]]], .tup [.str "b", .tup [.tup [.str "label", .str "a"], .tup [.str "label", .str "a"]]], .tup [.non, .tup [.tup [.str "label", .str "b"]]]]), .val (.lst [])] [z0, z1, z2, z3, z4, z5, z6, z7, z8, z9, z10, z11, z12, z13, z14, z15, z16, z17, z18, z19, z20, z21, .dct (ro7.take 29)] = .ok [.ownI 5 [some lo7, some (.ref 22)], .val pWorse, .val rw7, .own (wl7.take 37), .val (.int 9), .val (.tup [.tup [.str "a", .tup []], .tup [.str "b", .tup [.tup [.str "label", .str "a"], .tup [.str "label", .str "a"]]], .tup [.non, .tup [.tup [.str "label", .str "b"]]], .tup [.non, .tup [.tup [.str "label", .str "b"]]]]), .val (.tup [.str "move", .int 3, .int 2]), .val (.tup [.tup [.str "a", .tup []], .tup [.str "b", .tup [.tup [.str "label", .str "a"], .tup [.str "label", .str "a"]]], .tup [.non, .tup [.tup [.str "label", .str "b"]]], .tup [.non, .tup [.tup [.str "label", .str "b"]]]]), .val (.lst [])] [z0, z1, z2, z3, z4, z5, z6, z7, z8, z9, z10, z11, z12, z13, z14, z15, z16, z17, z18, z19, z20, z21, .dct (ro7.take 37)] := by kernel_rfl
theorem pc9 (z0 z1 z2 z3 z4 z5 z6 z7 z8 z9 z10 z11 z12 z13 z14 z15 z16 z17 z18 z19 z20 z21 : Ob) : itM wT wB 3 [.ownI 5 [some lo7, some (.ref 22)], .val pWorse, .val rw7, .own (wl7.take 37), .val (.int 9), .val (.tup [.tup [.str "a", .tup []], .tup [.str "b", .tup [.tup [.str "label", .str "a"], .tup [.str "label", .str "a"]]], .tup [.non, .tup [.tup [.str "label", .str "b"]]], .tup [.non, .tup [.tup [.str "label", .str "b"]]]]), .val (.tup [.str "move", .int 3, .int 2]), .val (.tup [.tup [.str "a", .tup []], .tup [.str "b", .tup [.tup [.str "label", .str "a"], .tup [.str "label", .str "a"]]], .tup [.non, .tup [.tup [.str "label", .str "b"]]], .tup [.non, .tup [.tup [.str "label", .str "b"]]]]), .val (.lst [])] [z0, z1, z2, z3, z4, z5, z6, z7, z8, z9, z10, z11, z12, z13, z14, z15, z16, z17, z18, z19, z20, z21, .dct (ro7.take 37)] = .ok [.ownI 5 [some lo7, some (.ref 22)], .val pWorse, .val rw7, .own (wl7.take 38), .val (.int 12), .val (.tup [.tup [.str "a", .tup []], .tup [.non, .tup [.tup [.str "label", .str "b"]]], .tup [.str "b", .tup [.tup [.str "label", .str "a"], .tup [.str "label", .str "a"]]]]), .val (.tup [.str "move", .int 2, .int 1]), .val (.tup [.tup [.str "a", .tup []], .tup [.str "b", .tup [.tup [.str "label", .str "a"], .tup [.str "label", .str "a"]]], .tup [.non, .tup [.tup [.str "label", .str "b"]]]]), .val (.lst [])] [z0, z1, z2, z3, z4, z5, z6, z7, z8, z9, z10, z11, z12, z13, z14, z15, z16, z17, z18, z19, z20, z21, .dct (ro7.take 38)] := by kernel_rfl
theorem pc12 (z0 z1 z2 z3 z4 z5 z6 z7 z8 z9 z10 z11 z12 z13 z14 z15 z16 z17 z18 z19 z20 z21 : Ob) : itM wT wB 3 [.ownI 5 [some lo7, some (.ref 22)], .val pWorse, .val rw7, .own (wl7.take 38), .val (.int 12), .val (.tup [.tup [.str "a", .tup []], .tup [.non, .tup [.tup [.str "label", .str "b"]]], .tup [.str "b", .tup [.tup [.str "label", .str "a"], .tup [.str "label", .str "a"]]]]), .val (.tup [.str "move", .int 2, .int 1]), .val (.tup [.tup [.str "a", .tup []], .tup [.str "b", .tup [.tup [.str "label", .str "a"], .tup [.str "label", .str "a"]]], .tup [.non, .tup [.tup [.str "label", .str "b"]]]]), .val (.lst [])] [z0, z1, z2, z3, z4, z5, z6, z7, z8, z9, z10, z11, z12, z13, z14, z15, z16, z17, z18, z19, z20, z21, .dct (ro7.take 38)] = .ok [.ownI 5 [some lo7, some (.ref 22)], .val pWorse, .val rw7, .own (wl7.take 39), .val (.int 15), .val (.tup [.tup [.str "a", .tup []], .tup [.str "a", .tup []], .tup [.non, .tup [.tup [.str "label", .str "b"]]], .tup [.str "b", .tup [.tup [.str "label", .str "a"], .tup [.str "label", .str "a"]]]]), .val (.tup [.str "move", .int 3, .int 2]), .val (.tup [.tup [.str "a", .tup []], .tup [.str "a", .tup []], .tup [.str "b", .tup [.tup [.str "label", .str "a"], .tup [.str "label", .str "a"]]], .tup [.non, .tup [.tup [.str "label", .str "b"]]]]), .val (.lst [])] [z0, z1, z2, z3, z4, z5, z6, z7, z8, z9, z10, z11, z12, z13, z14, z15, z16, z17, z18, z19, z20, z21, .dct (ro7.take 39)] := by kernel_rfl
theorem pc15 (z0 z1 z2 z3 z4 z5 z6 z7 z8 z9 z10 z11 z12 z13 z14 z15 z16 z17 z18 z19 z20 z21 : Ob) : itM wT wB 3 [.ownI 5 [some lo7, some (.ref 22)], .val pWorse, .val rw7, .own (wl7.take 39), .val (.int 15), .val (.tup [.tup [.str "a", .tup []], .tup [.str "a", .tup []], .tup [.non, .tup [.tup [.str "label", .str "b"]]], .tup [.str "b", .tup [.tup [.str "label", .str "a"], .tup [.str "label", .str "a"]]]]), .val (.tup [.str "move", .int 3, .int 2]), .val (.tup [.tup [.str "a", .tup []], .tup [.str "a", .tup []], .tup [.str "b", .tup [.tup [.str "label", .str "a"], .tup [.str "label", .str "a"]]], .tup [.non, .tup [.tup [.str "label", .str "b"]]]]), .val (.lst [])] [z0, z1, z2, z3, z4, z5, z6, z7, z8, z9, z10, z11, z12, z13, z14, z15, z16, z17, z18, z19, z20, z21, .dct (ro7.take 39)] = .ok [.ownI 5 [some lo7, some (.ref 22)], .val pWorse, .val rw7, .own (wl7.take 39), .val (.int 18), .val (.tup [.tup [.non, .tup [.tup [.str "label", .str "b"]]], .tup [.str "a", .tup []], .tup [.str "b", .tup [.tup [.str "label", .str "a"], .tup [.str "label", .str "a"]]], .tup [.str "a", .tup []]]), .val (.tup [.str "move", .int 3, .int 2]), .val (.tup [.tup [.non, .tup [.tup [.str "label", .str "b"]]], .tup [.str "a", .tup []], .tup [.str "a", .tup []], .tup [.str "b", .tup [.tup [.str "label", .str "a"], .tup [.str "label", .str "a"]]]]), .val (.lst [])] [z0, z1, z2, z3, z4, z5, z6, z7, z8, z9, z10, z11, z12, z13, z14, z15, z16, z17, z18, z19, z20, z21, .dct (ro7.take 39)] := by kernel_rfl
theorem pc18 (z0 z1 z2 z3 z4 z5 z6 z7 z8 z9 z10 z11 z12 z13 z14 z15 z16 z17 z18 z19 z20 z21 : Ob) : itM wT wB 3 [.ownI 5 [some lo7, some (.ref 22)], .val pWorse, .val rw7, .own (wl7.take 39), .val (.int 18), .val (.tup [.tup [.non, .tup [.tup [.str "label", .str "b"]]], .tup [.str "a", .tup []], .tup [.str "b", .tup [.tup [.str "label", .str "a"], .tup [.str "label", .str "a"]]], .tup [.str "a", .tup []]]), .val (.tup [.str "move", .int 3, .int 2]), .val (.tup [.tup [.non, .tup [.tup [.str "label", .str "b"]]], .tup [.str "a", .tup []], .tup [.str "a", .tup []], .tup [.str "b", .tup [.tup [.str "label", .str "a"], .tup [.str "label", .str "a"]]]]), .val (.lst [])] [z0, z1, z2, z3, z4, z5, z6, z7, z8, z9, z10, z11, z12, z13, z14, z15, z16, z17, z18, z19, z20, z21, .dct (ro7.take 39)] = .ok [.ownI 5 [some lo7, some (.ref 22)], .val pWorse, .val rw7, .own (wl7.take 39), .val (.int 21), .val (.tup [.tup [.str "b", .tup [.tup [.str "label", .str "a"], .tup [.str "label", .str "a"]]], .tup [.non, .tup [.tup [.str "label", .str "b"]]], .tup [.str "a", .tup []], .tup [.str "a", .tup []]]), .val (.tup [.str "move", .int 3, .int 2]), .val (.tup [.tup [.str "b", .tup [.tup [.str "label", .str "a"], .tup [.str "label", .str "a"]]], .tup [.non, .tup [.tup [.str "label", .str "b"]]], .tup [.str "a", .tup []], .tup [.str "a", .tup []]]), .val (.lst [.tup [.int 0, .int 0], .tup [.int 0, .int 1]])] [z0, z1, z2, z3, z4, z5, z6, z7, z8, z9, z10, z11, z12, z13, z14, z15, z16, z17, z18, z19, z20, z21, .dct (ro7.take 39)] := by kernel_rfl
theorem pc21 (z0 z1 z2 z3 z4 z5 z6 z7 z8 z9 z10 z11 z12 z13 z14 z15 z16 z17 z18 z19 z20 z21 : Ob) : itM wT wB 3 [.ownI 5 [some lo7, some (.ref 22)], .val pWorse, .val rw7, .own (wl7.take 39), .val (.int 21), .val (.tup [.tup [.str "b", .tup [.tup [.str "label", .str "a"], .tup [.str "label", .str "a"]]], .tup [.non, .tup [.tup [.str "label", .str "b"]]], .tup [.str "a", .tup []], .tup [.str "a", .tup []]]), .val (.tup [.str "move", .int 3, .int 2]), .val (.tup [.tup [.str "b", .tup [.tup [.str "label", .str "a"], .tup [.str "label", .str "a"]]], .tup [.non, .tup [.tup [.str "label", .str "b"]]], .tup [.str "a", .tup []], .tup [.str "a", .tup []]]), .val (.lst [.tup [.int 0, .int 0], .tup [.int 0, .int 1]])] [z0, z1, z2, z3, z4, z5, z6, z7, z8, z9, z10, z11, z12, z13, z14, z15, z16, z17, z18, z19, z20, z21, .dct (ro7.take 39)] = .ok [.ownI 5 [some lo7, some (.ref 22)], .val pWorse, .val rw7, .own (wl7.take 41), .val (.int 24), .val (.tup [.tup [.str "b", .tup [.tup [.str "label", .str "a"], .tup [.str "label", .str "a"]]], .tup [.str "b", .tup [.tup [.str "label", .str "a"], .tup [.str "label", .str "a"]]], .tup [.non, .tup [.tup [.str "label", .str "b"]]], .tup [.str "a", .tup []]]), .val (.tup [.str "move", .int 3, .int 2]), .val (.tup [.tup [.str "b", .tup [.tup [.str "label", .str "a"], .tup [.str "label", .str "a"]]], .tup [.str "b", .tup [.tup [.str "label", .str "a"], .tup [.str "label", .str "a"]]], .tup [.str "a", .tup []], .tup [.non, .tup [.tup [.str "label", .str "b"]]]]), .val (.lst [])] [z0, z1, z2, z3, z4, z5, z6, z7, z8, z9, z10, z11, z12, z13, z14, z15, z16, z17, z18, z19, z20, z21, .dct (ro7.take 41)] := by kernel_rfl
theorem pc24 (z0 z1 z2 z3 z4 z5 z6 z7 z8 z9 z10 z11 z12 z13 z14 z15 z16 z17 z18 z19 z20 z21 : Ob) : itM wT wB 3 [.ownI 5 [some lo7, some (.ref 22)], .val pWorse, .val rw7, .own (wl7.take 41), .val (.int 24), .val (.tup [.tup [.str "b", .tup [.tup [.str "label", .str "a"], .tup [.str "label", .str "a"]]], .tup [.str "b", .tup [.tup [.str "label", .str "a"], .tup [.str "label", .str "a"]]], .tup [.non, .tup [.tup [.str "label", .str "b"]]], .tup [.str "a", .tup []]]), .val (.tup [.str "move", .int 3, .int 2]), .val (.tup [.tup [.str "b", .tup [.tup [.str "label", .str "a"], .tup [.str "label", .str "a"]]], .tup [.str "b", .tup [.tup [.str "label", .str "a"], .tup [.str "label", .str "a"]]], .tup [.str "a", .tup []], .tup [.non, .tup [.tup [.str "label", .str "b"]]]]), .val (.lst [])] [z0, z1, z2, z3, z4, z5, z6, z7, z8, z9, z10, z11, z12, z13, z14, z15, z16, z17, z18, z19, z20, z21, .dct (ro7.take 41)] = .ok [.ownI 5 [some lo7, some (.ref 22)], .val pWorse, .val rw7, .own (wl7.take 41), .val (.int 27), .val (.tup [.tup [.str "b", .tup [.tup [.str "label", .str "a"], .tup [.str "label", .str "a"]]], .tup [.str "a", .tup []], .tup [.non, .tup [.tup [.str "label", .str "b"]]], .tup [.str "b", .tup [.tup [.str "label", .str "a"], .tup [.str "label", .str "a"]]]]), .val (.tup [.str "move", .int 3, .int 2]), .val (.tup [.tup [.str "b", .tup [.tup [.str "label", .str "a"], .tup [.str "label", .str "a"]]], .tup [.str "a", .tup []], .tup [.str "b", .tup [.tup [.str "label", .str "a"], .tup [.str "label", .str "a"]]], .tup [.non, .tup [.tup [.str "label", .str "b"]]]]), .val (.lst [])] [z0, z1, z2, z3, z4, z5, z6, z7, z8, z9, z10, z11, z12, z13, z14, z15, z16, z17, z18, z19, z20, z21, .dct (ro7.take 41)] := by kernel_rfl
theorem pc27 (z0 z1 z2 z3 z4 z5 z6 z7 z8 z9 z10 z11 z12 z13 z14 z15 z16 z17 z18 z19 z20 z21 : Ob) : itM wT wB 3 [.ownI 5 [some lo7, some (.ref 22)], .val pWorse, .val rw7, .own (wl7.take 41), .val (.int 27), .val (.tup [.tup [.str "b", .tup [.tup [.str "label", .str "a"], .tup [.str "label", .str "a"]]], .tup [.str "a", .tup []], .tup [.non, .tup [.tup [.str "label", .str "b"]]], .tup [.str "b", .tup [.tup [.str "label", .str "a"], .tup [.str "label", .str "a"]]]]), .val (.tup [.str "move", .int 3, .int 2]), .val (.tup [.tup [.str "b", .tup [.tup [.str "label", .str "a"], .tup [.str "label", .str "a"]]], .tup [.str "a", .tup []], .tup [.str "b", .tup [.tup [.str "label", .str "a"], .tup [.str "label", .str "a"]]], .tup [.non, .tup [.tup [.str "label", .str "b"]]]]), .val (.lst [])] [z0, z1, z2, z3, z4, z5, z6, z7, z8, z9, z10, z11, z12, z13, z14, z15, z16, z17, z18, z19, z20, z21, .dct (ro7.take 41)] = .ok [.ownI 5 [some lo7, some (.ref 22)], .val pWorse, .val rw7, .own (wl7.take 42), .val (.int 30), .val (.tup [.tup [.non, .tup [.tup [.str "label", .str "b"]]], .tup [.str "b", .tup [.tup [.str "label", .str "a"], .tup [.str "label", .str "a"]]], .tup [.str "a", .tup []], .tup [.non, .tup [.tup [.str "label", .str "b"]]]]), .val (.tup [.str "move", .int 3, .int 2]), .val (.tup [.tup [.non, .tup [.tup [.str "label", .str "b"]]], .tup [.str "b", .tup [.tup [.str "label", .str "a"], .tup [.str "label", .str "a"]]], .tup [.non, .tup [.tup [.str "label", .str "b"]]], .tup [.str "a", .tup []]]), .val (.lst [])] [z0, z1, z2, z3, z4, z5, z6, z7, z8, z9, z10, z11, z12, z13, z14, z15, z16, z17, z18, z19, z20, z21, .dct (ro7.take 42)] := by kernel_rfl
theorem pc30 (z0 z1 z2 z3 z4 z5 z6 z7 z8 z9 z10 z11 z12 z13 z14 z15 z16 z17 z18 z19 z20 z21 : Ob) : itM wT wB 3 [.ownI 5 [some lo7, some (.ref 22)], .val pWorse, .val rw7, .own (wl7.take 42), .val (.int 30), .val (.tup [.tup [.non, .tup [.tup [.str "label", .str "b"]]], .tup [.str "b", .tup [.tup [.str "label", .str "a"], .tup [.str "label", .str "a"]]], .tup [.str "a", .tup []], .tup [.non, .tup [.tup [.str "label", .str "b"]]]]), .val (.tup [.str "move", .int 3, .int 2]), .val (.tup [.tup [.non, .tup [.tup [.str "label", .str "b"]]], .tup [.str "b", .tup [.tup [.str "label", .str "a"], .tup [.str "label", .str "a"]]], .tup [.non, .tup [.tup [.str "label", .str "b"]]], .tup [.str "a", .tup []]]), .val (.lst [])] [z0, z1, z2, z3, z4, z5, z6, z7, z8, z9, z10, z11, z12, z13, z14, z15, z16, z17, z18, z19, z20, z21, .dct (ro7.take 42)] = .ok [.ownI 5 [some lo7, some (.ref 22)], .val pWorse, .val rw7, .own (wl7.take 42), .val (.int 33), .val (.tup [.tup [.non, .tup [.tup [.str "label", .str "b"]]], .tup [.str "a", .tup []], .tup [.non, .tup [.tup [.str "label", .str "b"]]], .tup [.str "b", .tup [.tup [.str "label", .str "a"], .tup [.str "label", .str "a"]]]]), .val (.tup [.str "move", .int 3, .int 2]), .val (.tup [.tup [.non, .tup [.tup [.str "label", .str "b"]]], .tup [.str "a", .tup []], .tup [.str "b", .tup [.tup [.str "label", .str "a"], .tup [.str "label", .str "a"]]], .tup [.non, .tup [.tup [.str "label", .str "b"]]]]), .val (.lst [])] [z0, z1, z2, z3, z4, z5, z6, z7, z8, z9, z10, z11, z12, z13, z14, z15, z16, z17, z18, z19, z20, z21, .dct (ro7.take 42)] := by kernel_rfl
theorem pc33 (z0 z1 z2 z3 z4 z5 z6 z7 z8 z9 z10 z11 z12 z13 z14 z15 z16 z17 z18 z19 z20 z21 : Ob) : itM wT wB 3 [.ownI 5 [some lo7, some (.ref 22)], .val pWorse, .val rw7, .own (wl7.take 42), .val (.int 33), .val (.tup [.tup [.non, .tup [.tup [.str "label", .str "b"]]], .tup [.str "a", .tup []], .tup [.non, .tup [.tup [.str "label", .str "b"]]], .tup [.str "b", .tup [.tup [.str "label", .str "a"], .tup [.str "label", .str "a"]]]]), .val (.tup [.str "move", .int 3, .int 2]), .val (.tup [.tup [.non, .tup [.tup [.str "label", .str "b"]]], .tup [.str "a", .tup []], .tup [.str "b", .tup [.tup [.str "label", .str "a"], .tup [.str "label", .str "a"]]], .tup [.non, .tup [.tup [.str "label", .str "b"]]]]), .val (.lst [])] [z0, z1, z2, z3, z4, z5, z6, z7, z8, z9, z10, z11, z12, z13, z14, z15, z16, z17, z18, z19, z20, z21, .dct (ro7.take 42)] = .ok [.ownI 5 [some lo7, some (.ref 22)], .val pWorse, .val rw7, .own (wl7.take 42), .val (.int 36), .val (.tup [.tup [.str "a", .tup []], .tup [.non, .tup [.tup [.str "label", .str "b"]]], .tup [.non, .tup [.tup [.str "label", .str "b"]]], .tup [.str "b", .tup [.tup [.str "label", .str "a"], .tup [.str "label", .str "a"]]]]), .val (.tup [.str "move", .int 3, .int 2]), .val (.tup [.tup [.str "a", .tup []], .tup [.non, .tup [.tup [.str "label", .str "b"]]], .tup [.str "b", .tup [.tup [.str "label", .str "a"], .tup [.str "label", .str "a"]]], .tup [.non, .tup [.tup [.str "label", .str "b"]]]]), .val (.lst [])] [z0, z1, z2, z3, z4, z5, z6, z7, z8, z9, z10, z11, z12, z13, z14, z15, z16, z17, z18, z19, z20, z21, .dct (ro7.take 42)] := by kernel_rfl
theorem pc36 (z0 z1 z2 z3 z4 z5 z6 z7 z8 z9 z10 z11 z12 z13 z14 z15 z16 z17 z18 z19 z20 z21 : Ob) : itM wT wB 3 [.ownI 5 [some lo7, some (.ref 22)], .val pWorse, .val rw7, .own (wl7.take 42), .val (.int 36), .val (.tup [.tup [.str "a", .tup []], .tup [.non, .tup [.tup [.str "label", .str "b"]]], .tup [.non, .tup [.tup [.str "label", .str "b"]]], .tup [.str "b", .tup [.tup [.str "label", .str "a"], .tup [.str "label", .str "a"]]]]), .val (.tup [.str "move", .int 3, .int 2]), .val (.tup [.tup [.str "a", .tup []], .tup [.non, .tup [.tup [.str "label", .str "b"]]], .tup [.str "b", .tup [.tup [.str "label", .str "a"], .tup [.str "label", .str "a"]]], .tup [.non, .tup [.tup [.str "label", .str "b"]]]]), .val (.lst [])] [z0, z1, z2, z3, z4, z5, z6, z7, z8, z9, z10, z11, z12, z13, z14, z15, z16, z17, z18, z19, z20, z21, .dct (ro7.take 42)] = .ok [.ownI 5 [some lo7, some (.ref 22)], .val pWorse, .val rw7, .own (wl7.take 42), .val (.int 39), .val (.tup [.tup [.non, .tup [.tup [.str "label", .str "b"]]], .tup [.str "b", .tup [.tup [.str "label", .str "a"], .tup [.str "label", .str "a"]]], .tup [.str "a", .tup []], .tup [.str "a", .tup []]]), .val (.tup [.str "move", .int 3, .int 2]), .val (.tup [.tup [.non, .tup [.tup [.str "label", .str "b"]]], .tup [.str "b", .tup [.tup [.str "label", .str "a"], .tup [.str "label", .str "a"]]], .tup [.str "a", .tup []], .tup [.str "a", .tup []]]), .val (.lst [.tup [.int 1, .int 0], .tup [.int 1, .int 1]])] [z0, z1, z2, z3, z4, z5, z6, z7, z8, z9, z10, z11, z12, z13, z14, z15, z16, z17, z18, z19, z20, z21, .dct (ro7.take 42)] := by kernel_rfl
theorem pc39 (z0 z1 z2 z3 z4 z5 z6 z7 z8 z9 z10 z11 z12 z13 z14 z15 z16 z17 z18 z19 z20 z21 : Ob) : itM wT wB 3 [.ownI 5 [some lo7, some (.ref 22)], .val pWorse, .val rw7, .own (wl7.take 42), .val (.int 39), .val (.tup [.tup [.non, .tup [.tup [.str "label", .str "b"]]], .tup [.str "b", .tup [.tup [.str "label", .str "a"], .tup [.str "label", .str "a"]]], .tup [.str "a", .tup []], .tup [.str "a", .tup []]]), .val (.tup [.str "move", .int 3, .int 2]), .val (.tup [.tup [.non, .tup [.tup [.str "label", .str "b"]]], .tup [.str "b", .tup [.tup [.str "label", .str "a"], .tup [.str "label", .str "a"]]], .tup [.str "a", .tup []], .tup [.str "a", .tup []]]), .val (.lst [.tup [.int 1, .int 0], .tup [.int 1, .int 1]])] [z0, z1, z2, z3, z4, z5, z6, z7, z8, z9, z10, z11, z12, z13, z14, z15, z16, z17, z18, z19, z20, z21, .dct (ro7.take 42)] = .ok [.ownI 5 [some lo7, some (.ref 22)], .val pWorse, .val rw7, .own (wl7.take 42), .val (.int 42), .val (.tup [.tup [.non, .tup [.tup [.str "label", .str "b"]]], .tup [.non, .tup [.tup [.str "label", .str "b"]]], .tup [.str "b", .tup [.tup [.str "label", .str "a"], .tup [.str "label", .str "a"]]], .tup [.str "a", .tup []]]), .val (.tup [.str "move", .int 3, .int 2]), .val (.tup [.tup [.non, .tup [.tup [.str "label", .str "b"]]], .tup [.non, .tup [.tup [.str "label", .str "b"]]], .tup [.str "a", .tup []], .tup [.str "b", .tup [.tup [.str "label", .str "a"], .tup [.str "label", .str "a"]]]]), .val (.lst [])] [z0, z1, z2, z3, z4, z5, z6, z7, z8, z9, z10, z11, z12, z13, z14, z15, z16, z17, z18, z19, z20, z21, .dct (ro7.take 42)] := by kernel_rfl
end Pu

/-! text: K4B -/
set_option Elab.async false
set_option linter.all false
set_option maxRecDepth 100000
set_option maxHeartbeats 0
namespace Pu
open PySem PySem.Spec L2 Sm Wk

theorem pcE (z0 z1 z2 z3 z4 z5 z6 z7 z8 z9 z10 z11 z12 z13 z14 z15 z16 z17 z18 z19 z20 z21 : Ob) : whM wT wB 360 [.ownI 5 [some lo7, some (.ref 22)], .val pWorse, .val rw7, .own (wl7.take 42), .val (.int 42), .val (.tup [.tup [.non, .tup [.tup [.str "label", .str "b"]]], .tup [.non, .tup [.tup [.str "label", .str "b"]]], .tup [.str "b", .tup [.tup [.str "label", .str "a"], .tup [.str "label", .str "a"]]], .tup [.str "a", .tup []]]), .val (.tup [.str "move", .int 3, .int 2]), .val (.tup [.tup [.non, .tup [.tup [.str "label", .str "b"]]], .tup [.non, .tup [.tup [.str "label", .str "b"]]], .tup [.str "a", .tup []], .tup [.str "b", .tup [.tup [.str "label", .str "a"], .tup [.str "label", .str "a"]]]]), .val (.lst [])] [z0, z1, z2, z3, z4, z5, z6, z7, z8, z9, z10, z11, z12, z13, z14, z15, z16, z17, z18, z19, z20, z21, .dct (ro7.take 42)] = .ok (.nx [.ownI 5 [some lo7, some (.ref 22)], .val pWorse, .val rw7, .own (wl7.take 42), .val (.int 42), .val (.tup [.tup [.non, .tup [.tup [.str "label", .str "b"]]], .tup [.non, .tup [.tup [.str "label", .str "b"]]], .tup [.str "b", .tup [.tup [.str "label", .str "a"], .tup [.str "label", .str "a"]]], .tup [.str "a", .tup []]]), .val (.tup [.str "move", .int 3, .int 2]), .val (.tup [.tup [.non, .tup [.tup [.str "label", .str "b"]]], .tup [.non, .tup [.tup [.str "label", .str "b"]]], .tup [.str "a", .tup []], .tup [.str "b", .tup [.tup [.str "label", .str "a"], .tup [.str "label", .str "a"]]]]), .val (.lst [])]) [z0, z1, z2, z3, z4, z5, z6, z7, z8, z9, z10, z11, z12, z13, z14, z15, z16, z17, z18, z19, z20, z21, .dct (ro7.take 42)] := by kernel_rfl
theorem wh7 (z0 z1 z2 z3 z4 z5 z6 z7 z8 z9 z10 z11 z12 z13 z14 z15 z16 z17 z18 z19 z20 z21 : Ob) : whM wT wB 402 [.ownI 5 [some .non, some (.ref 22)], .val pWorse, .val rw7, .own [rw7], .val (.int 0), .no, .no, .no, .no] [z0, z1, z2, z3, z4, z5, z6, z7, z8, z9, z10, z11, z12, z13, z14, z15, z16, z17, z18, z19, z20, z21, .dct [(rw7, .non)]] = .ok (.nx [.ownI 5 [some lo7, some (.ref 22)], .val pWorse, .val rw7, .own (wl7.take 42), .val (.int 42), .val (.tup [.tup [.non, .tup [.tup [.str "label", .str "b"]]], .tup [.non, .tup [.tup [.str "label", .str "b"]]], .tup [.str "b", .tup [.tup [.str "label", .str "a"], .tup [.str "label", .str "a"]]], .tup [.str "a", .tup []]]), .val (.tup [.str "move", .int 3, .int 2]), .val (.tup [.tup [.non, .tup [.tup [.str "label", .str "b"]]], .tup [.non, .tup [.tup [.str "label", .str "b"]]], .tup [.str "a", .tup []], .tup [.str "b", .tup [.tup [.str "label", .str "a"], .tup [.str "label", .str "a"]]]]), .val (.lst [])]) [z0, z1, z2, z3, z4, z5, z6, z7, z8, z9, z10, z11, z12, z13, z14, z15, z16, z17, z18, z19, z20, z21, .dct (ro7.take 42)] := by
  refine (whM_it 399 3 (pc0 z0 z1 z2 z3 z4 z5 z6 z7 z8 z9 z10 z11 z12 z13 z14 z15 z16 z17 z18 z19 z20 z21)).trans ?_
  refine (whM_it 396 3 (pc3 z0 z1 z2 z3 z4 z5 z6 z7 z8 z9 z10 z11 z12 z13 z14 z15 z16 z17 z18 z19 z20 z21)).trans ?_
  refine (whM_it 393 3 (pc6 z0 z1 z2 z3 z4 z5 z6 z7 z8 z9 z10 z11 z12 z13 z14 z15 z16 z17 z18 z19 z20 z21)).trans ?_
  refine (whM_it 390 3 (pc9 z0 z1 z2 z3 z4 z5 z6 z7 z8 z9 z10 z11 z12 z13 z14 z15 z16 z17 z18 z19 z20 z21)).trans ?_
  refine (whM_it 387 3 (pc12 z0 z1 z2 z3 z4 z5 z6 z7 z8 z9 z10 z11 z12 z13 z14 z15 z16 z17 z18 z19 z20 z21)).trans ?_
  refine (whM_it 384 3 (pc15 z0 z1 z2 z3 z4 z5 z6 z7 z8 z9 z10 z11 z12 z13 z14 z15 z16 z17 z18 z19 z20 z21)).trans ?_
  refine (whM_it 381 3 (pc18 z0 z1 z2 z3 z4 z5 z6 z7 z8 z9 z10 z11 z12 z13 z14 z15 z16 z17 z18 z19 z20 z21)).trans ?_
  refine (whM_it 378 3 (pc21 z0 z1 z2 z3 z4 z5 z6 z7 z8 z9 z10 z11 z12 z13 z14 z15 z16 z17 z18 z19 z20 z21)).trans ?_
  refine (whM_it 375 3 (pc24 z0 z1 z2 z3 z4 z5 z6 z7 z8 z9 z10 z11 z12 z13 z14 z15 z16 z17 z18 z19 z20 z21)).trans ?_
  refine (whM_it 372 3 (pc27 z0 z1 z2 z3 z4 z5 z6 z7 z8 z9 z10 z11 z12 z13 z14 z15 z16 z17 z18 z19 z20 z21)).trans ?_
  refine (whM_it 369 3 (pc30 z0 z1 z2 z3 z4 z5 z6 z7 z8 z9 z10 z11 z12 z13 z14 z15 z16 z17 z18 z19 z20 z21)).trans ?_
  refine (whM_it 366 3 (pc33 z0 z1 z2 z3 z4 z5 z6 z7 z8 z9 z10 z11 z12 z13 z14 z15 z16 z17 z18 z19 z20 z21)).trans ?_
  refine (whM_it 363 3 (pc36 z0 z1 z2 z3 z4 z5 z6 z7 z8 z9 z10 z11 z12 z13 z14 z15 z16 z17 z18 z19 z20 z21)).trans ?_
  refine (whM_it 360 3 (pc39 z0 z1 z2 z3 z4 z5 z6 z7 z8 z9 z10 z11 z12 z13 z14 z15 z16 z17 z18 z19 z20 z21)).trans ?_
  exact pcE z0 z1 z2 z3 z4 z5 z6 z7 z8 z9 z10 z11 z12 z13 z14 z15 z16 z17 z18 z19 z20 z21
theorem wq0 (z0 z1 z2 z3 z4 z5 z6 z7 z8 z9 z10 z11 z12 z13 z14 z15 z16 z17 z18 z19 z20 z21 : Ob) : wi0 [.ownI 5 [none, none], .val pWorse, .val rw7, .no, .no, .no, .no, .no, .no] [z0, z1, z2, z3, z4, z5, z6, z7, z8, z9, z10, z11, z12, z13, z14, z15, z16, z17, z18, z19, z20, z21] = .ok (.nx [.ownI 5 [none, some (.ref 22)], .val pWorse, .val rw7, .no, .no, .no, .no, .no, .no]) [z0, z1, z2, z3, z4, z5, z6, z7, z8, z9, z10, z11, z12, z13, z14, z15, z16, z17, z18, z19, z20, z21, .dct [(rw7, .non)]] := by kernel_rfl
theorem wq1 (z0 z1 z2 z3 z4 z5 z6 z7 z8 z9 z10 z11 z12 z13 z14 z15 z16 z17 z18 z19 z20 z21 : Ob) : wi1 [.ownI 5 [none, some (.ref 22)], .val pWorse, .val rw7, .no, .no, .no, .no, .no, .no] [z0, z1, z2, z3, z4, z5, z6, z7, z8, z9, z10, z11, z12, z13, z14, z15, z16, z17, z18, z19, z20, z21, .dct [(rw7, .non)]] = .ok (.nx [.ownI 5 [some .non, some (.ref 22)], .val pWorse, .val rw7, .no, .no, .no, .no, .no, .no]) [z0, z1, z2, z3, z4, z5, z6, z7, z8, z9, z10, z11, z12, z13, z14, z15, z16, z17, z18, z19, z20, z21, .dct [(rw7, .non)]] := by kernel_rfl
theorem wq2 (z0 z1 z2 z3 z4 z5 z6 z7 z8 z9 z10 z11 z12 z13 z14 z15 z16 z17 z18 z19 z20 z21 : Ob) : wi2 [.ownI 5 [some .non, some (.ref 22)], .val pWorse, .val rw7, .no, .no, .no, .no, .no, .no] [z0, z1, z2, z3, z4, z5, z6, z7, z8, z9, z10, z11, z12, z13, z14, z15, z16, z17, z18, z19, z20, z21, .dct [(rw7, .non)]] = .ok (.nx [.ownI 5 [some .non, some (.ref 22)], .val pWorse, .val rw7, .own [rw7], .val (.int 0), .no, .no, .no, .no]) [z0, z1, z2, z3, z4, z5, z6, z7, z8, z9, z10, z11, z12, z13, z14, z15, z16, z17, z18, z19, z20, z21, .dct [(rw7, .non)]] := by kernel_rfl
theorem web7 (z0 z1 z2 z3 z4 z5 z6 z7 z8 z9 z10 z11 z12 z13 z14 z15 z16 z17 z18 z19 z20 z21 : Ob) : m_Web_init [pWorse, rw7] [z0, z1, z2, z3, z4, z5, z6, z7, z8, z9, z10, z11, z12, z13, z14, z15, z16, z17, z18, z19, z20, z21] = .ok (.ref 23) [z0, z1, z2, z3, z4, z5, z6, z7, z8, z9, z10, z11, z12, z13, z14, z15, z16, z17, z18, z19, z20, z21, od7, oi7] := by
  have h : b_Web_init [.ownI 5 [none, none], .val pWorse, .val rw7, .no, .no, .no, .no, .no, .no] [z0, z1, z2, z3, z4, z5, z6, z7, z8, z9, z10, z11, z12, z13, z14, z15, z16, z17, z18, z19, z20, z21] = .ok (.nx [.ownI 5 [some lo7, some (.ref 22)], .val pWorse, .val rw7, .own (wl7.take 42), .val (.int 42), .val (.tup [.tup [.non, .tup [.tup [.str "label", .str "b"]]], .tup [.non, .tup [.tup [.str "label", .str "b"]]], .tup [.str "b", .tup [.tup [.str "label", .str "a"], .tup [.str "label", .str "a"]]], .tup [.str "a", .tup []]]), .val (.tup [.str "move", .int 3, .int 2]), .val (.tup [.tup [.non, .tup [.tup [.str "label", .str "b"]]], .tup [.non, .tup [.tup [.str "label", .str "b"]]], .tup [.str "a", .tup []], .tup [.str "b", .tup [.tup [.str "label", .str "a"], .tup [.str "label", .str "a"]]]]), .val (.lst [])]) [z0, z1, z2, z3, z4, z5, z6, z7, z8, z9, z10, z11, z12, z13, z14, z15, z16, z17, z18, z19, z20, z21, .dct (ro7.take 42)] := by
    rw [wi_eq, seqS_nx (wq0 z0 z1 z2 z3 z4 z5 z6 z7 z8 z9 z10 z11 z12 z13 z14 z15 z16 z17 z18 z19 z20 z21), seqS_nx (wq1 z0 z1 z2 z3 z4 z5 z6 z7 z8 z9 z10 z11 z12 z13 z14 z15 z16 z17 z18 z19 z20 z21), seqS_nx (wq2 z0 z1 z2 z3 z4 z5 z6 z7 z8 z9 z10 z11 z12 z13 z14 z15 z16 z17 z18 z19 z20 z21)]
    exact wh7 z0 z1 z2 z3 z4 z5 z6 z7 z8 z9 z10 z11 z12 z13 z14 z15 z16 z17 z18 z19 z20 z21
  have hi : iniMR (.nx [.ownI 5 [some lo7, some (.ref 22)], .val pWorse, .val rw7, .own (wl7.take 42), .val (.int 42), .val (.tup [.tup [.non, .tup [.tup [.str "label", .str "b"]]], .tup [.non, .tup [.tup [.str "label", .str "b"]]], .tup [.str "b", .tup [.tup [.str "label", .str "a"], .tup [.str "label", .str "a"]]], .tup [.str "a", .tup []]]), .val (.tup [.str "move", .int 3, .int 2]), .val (.tup [.tup [.non, .tup [.tup [.str "label", .str "b"]]], .tup [.non, .tup [.tup [.str "label", .str "b"]]], .tup [.str "a", .tup []], .tup [.str "b", .tup [.tup [.str "label", .str "a"], .tup [.str "label", .str "a"]]]]), .val (.lst [])]) [z0, z1, z2, z3, z4, z5, z6, z7, z8, z9, z10, z11, z12, z13, z14, z15, z16, z17, z18, z19, z20, z21, .dct (ro7.take 42)] = .ok (.ref 23) [z0, z1, z2, z3, z4, z5, z6, z7, z8, z9, z10, z11, z12, z13, z14, z15, z16, z17, z18, z19, z20, z21, od7, oi7] := by kernel_rfl
  have hb : bd (b_Web_init [.ownI 5 [none, none], .val pWorse, .val rw7, .no, .no, .no, .no, .no, .no]) iniMR [z0, z1, z2, z3, z4, z5, z6, z7, z8, z9, z10, z11, z12, z13, z14, z15, z16, z17, z18, z19, z20, z21] = .ok (.ref 23) [z0, z1, z2, z3, z4, z5, z6, z7, z8, z9, z10, z11, z12, z13, z14, z15, z16, z17, z18, z19, z20, z21, od7, oi7] := (bd_ok h).trans hi
  unfold m_Web_init initMR
  exact hb
def af0 : Sm.Env → M Out := (setV 2 fun ρ => (bd (consM (vl ρ 0) (consM (vl ρ 1) (rt []))) fun ds => callM 2 m_Web_init ds))
def af1 : Sm.Env → M Out := (fun ρ => bd (bd (boolT (bd (bd (vl ρ 2) (getR 5 0)) fun x => op1 (isN false) x)) fun t => iteM t (bd (consM (bd (c1N listX2 (consM (bd (vl ρ 2) (getR 5 1)) (rt []))) fun ds => rt (.lst ds)) (rt [])) fun ds => callM 1 m_Sure_init ds) (bd (consM (bd (vl ρ 2) fun d => bd (refM 5 d) fun d => callM 1 m_Web_edits_lost [d]) (rt [])) fun ds => callM 1 m_Astray_init ds)) fun d => rt (.ret d))
theorem af_eq : b_answer_for = seqS af0 af1 := rfl
theorem aq1 (z0 z1 z2 z3 z4 z5 z6 z7 z8 z9 z10 z11 z12 z13 z14 z15 z16 z17 z18 z19 z20 z21 : Ob) : af1 [.val pWorse, .val rw7, .val (.ref 23)] [z0, z1, z2, z3, z4, z5, z6, z7, z8, z9, z10, z11, z12, z13, z14, z15, z16, z17, z18, z19, z20, z21, od7, oi7] = .ok (.ret astC) [z0, z1, z2, z3, z4, z5, z6, z7, z8, z9, z10, z11, z12, z13, z14, z15, z16, z17, z18, z19, z20, z21, od7, oi7] := by kernel_rfl
theorem an7 (z0 z1 z2 z3 z4 z5 z6 z7 z8 z9 z10 z11 z12 z13 z14 z15 z16 z17 z18 z19 z20 z21 : Ob) : m_answer_for [pWorse, rw7] [z0, z1, z2, z3, z4, z5, z6, z7, z8, z9, z10, z11, z12, z13, z14, z15, z16, z17, z18, z19, z20, z21] = .ok astC [z0, z1, z2, z3, z4, z5, z6, z7, z8, z9, z10, z11, z12, z13, z14, z15, z16, z17, z18, z19, z20, z21, od7, oi7] := by
  have h0 : af0 [.val pWorse, .val rw7, .no] [z0, z1, z2, z3, z4, z5, z6, z7, z8, z9, z10, z11, z12, z13, z14, z15, z16, z17, z18, z19, z20, z21] = .ok (.nx [.val pWorse, .val rw7, .val (.ref 23)]) [z0, z1, z2, z3, z4, z5, z6, z7, z8, z9, z10, z11, z12, z13, z14, z15, z16, z17, z18, z19, z20, z21, od7, oi7] := setV_ok (i := 2) (ρ := [.val pWorse, .val rw7, .no]) (call2 (by kernel_rfl) (web7 z0 z1 z2 z3 z4 z5 z6 z7 z8 z9 z10 z11 z12 z13 z14 z15 z16 z17 z18 z19 z20 z21))
  have h : b_answer_for [.val pWorse, .val rw7, .no] [z0, z1, z2, z3, z4, z5, z6, z7, z8, z9, z10, z11, z12, z13, z14, z15, z16, z17, z18, z19, z20, z21] = .ok (.ret astC) [z0, z1, z2, z3, z4, z5, z6, z7, z8, z9, z10, z11, z12, z13, z14, z15, z16, z17, z18, z19, z20, z21, od7, oi7] := by
    rw [af_eq, seqS_nx h0]
    exact aq1 z0 z1 z2 z3 z4 z5 z6 z7 z8 z9 z10 z11 z12 z13 z14 z15 z16 z17 z18 z19 z20 z21
  exact fnM_ok rfl h
end Pu

/-! text: K5 -/
set_option Elab.async false
set_option linter.all false
set_option maxRecDepth 100000
set_option maxHeartbeats 0
namespace Pu
open PySem PySem.Spec L2 Sm Wk

def fw0 : Sm.Env → M Out := (fun ρ => bd (bd (consM (vl ρ 0) (consM (vl ρ 1) (rt []))) fun ds => callM 2 m_check_few ds) fun _ => rt (.nx ρ))
def fw1 : Sm.Env → M Out := (setV 2 fun ρ => newT0)
def fwI : Sm.Env → M (List D) := fun ρ => (bd (bd (consM (bd (vl ρ 1) fun d => bd (insM 0 d) fun d => noX (callM 1 m_Steps_rows [d])) (rt [])) fun ds => callM 1 m_possible ds) seqM)
def fb0 : Sm.Env → M Out := (setV 5 fun ρ => (bd (consM (vl ρ 0) (consM (vl ρ 4) (rt []))) fun ds => callM 2 m_answer_for ds))
def fb1 : Sm.Env → M Out := seqS (fun ρ => bd (boolT (c1 (isoD 8) (consM (vb ρ 5) (consM (rt (.cls 3)) (rt []))))) fun t => iteM t ((fun ρ => bd (bd (consM (vl ρ 3) (consM (vl ρ 5) (consM (bd (bd (bd (vl ρ 2) lockM) keysF) fun ds => bd (noX (dcM (fun d => bindD (.one 6) d (wipeE ρ [6])) (fun ρ => (boolT (o2 ltI (c1 lenD (consM (vb ρ 6) (rt []))) (c1 lenD (consM (vb ρ 3) (rt [])))))) (fun ρ => (vl ρ 6)) (fun ρ => (o2 getT (vb ρ 2) (vb ρ 6))) ds [])) newDcM) (rt [])))) fun ds => callM 3 m_Fewest_init ds) fun d => rt (.ret d)) ρ) (nextS ρ))
  (fun ρ => bd (vl ρ 5) fun v => bd (vl ρ 2) fun x => bd (vl ρ 3) fun y => putT x y v ρ)
def fw3 : Sm.Env → M Out := (fun ρ => bd (bd (consM (vl ρ 2) (rt [])) fun ds => callM 1 m_Hopeless_init ds) fun d => rt (.ret d))
theorem fw_eq : b_fewest = seqS fw0 (seqS fw1 (seqS (fun ρ => bd (fwI ρ) fun ds => forM (.tup [3, 4]) (seqS fb0 fb1) ds ρ) fw3)) := rfl
def dbC : List (D × D) := [(ch0, astC), (ch1, astC), (ch2, astC), (ch3, astC), (ch4, astC), (ch5, astC), (ch6, astC), (ch7, astC)]
theorem fq0 (z0 z1 z2 z3 z4 z5 z6 : Ob) : fw0 [.val pWorse, .val stA, .no, .no, .no, .no, .no] [z0, z1, z2, z3, z4, z5, z6] = .ok (.nx [.val pWorse, .val stA, .no, .no, .no, .no, .no]) [z0, z1, z2, z3, z4, z5, z6] := by kernel_rfl
theorem fq1 (z0 z1 z2 z3 z4 z5 z6 : Ob) : fw1 [.val pWorse, .val stA, .no, .no, .no, .no, .no] [z0, z1, z2, z3, z4, z5, z6] = .ok (.nx [.val pWorse, .val stA, .val (.ref 7), .no, .no, .no, .no]) [z0, z1, z2, z3, z4, z5, z6, .dct (dbC.take 0)] := by kernel_rfl
theorem fqI (z0 z1 z2 z3 z4 z5 z6 : Ob) : fwI [.val pWorse, .val stA, .val (.ref 7), .no, .no, .no, .no] [z0, z1, z2, z3, z4, z5, z6, .dct (dbC.take 0)] = .ok [.tup [ch0, rw0], .tup [ch1, rw1], .tup [ch2, rw2], .tup [ch3, rw3], .tup [ch4, rw4], .tup [ch5, rw5], .tup [ch6, rw6], .tup [ch7, rw7]] [z0, z1, z2, z3, z4, z5, z6, .dct (dbC.take 0)] := by kernel_rfl
theorem fi0 (z0 z1 z2 z3 z4 z5 z6 : Ob) : seqS fb0 fb1 [.val pWorse, .val stA, .val (.ref 7), .val ch0, .val rw0, .no, .no] [z0, z1, z2, z3, z4, z5, z6, .dct (dbC.take 0)] = .ok (.nx [.val pWorse, .val stA, .val (.ref 7), .val ch0, .val rw0, .val astC, .no]) [z0, z1, z2, z3, z4, z5, z6, .dct (dbC.take 1), od0, oi0] := by
  have h0 : fb0 [.val pWorse, .val stA, .val (.ref 7), .val ch0, .val rw0, .no, .no] [z0, z1, z2, z3, z4, z5, z6, .dct (dbC.take 0)] = .ok (.nx [.val pWorse, .val stA, .val (.ref 7), .val ch0, .val rw0, .val astC, .no]) [z0, z1, z2, z3, z4, z5, z6, .dct (dbC.take 0), od0, oi0] := setV_ok (i := 5) (ρ := [.val pWorse, .val stA, .val (.ref 7), .val ch0, .val rw0, .no, .no]) (call2 (by kernel_rfl) (an0 z0 z1 z2 z3 z4 z5 z6 (.dct (dbC.take 0))))
  rw [seqS_nx h0]
  kernel_rfl
theorem fi1 (z0 z1 z2 z3 z4 z5 z6 : Ob) : seqS fb0 fb1 [.val pWorse, .val stA, .val (.ref 7), .val ch1, .val rw1, .val astC, .no] [z0, z1, z2, z3, z4, z5, z6, .dct (dbC.take 1), od0, oi0] = .ok (.nx [.val pWorse, .val stA, .val (.ref 7), .val ch1, .val rw1, .val astC, .no]) [z0, z1, z2, z3, z4, z5, z6, .dct (dbC.take 2), od0, oi0, od1, oi1] := by
  have h0 : fb0 [.val pWorse, .val stA, .val (.ref 7), .val ch1, .val rw1, .val astC, .no] [z0, z1, z2, z3, z4, z5, z6, .dct (dbC.take 1), od0, oi0] = .ok (.nx [.val pWorse, .val stA, .val (.ref 7), .val ch1, .val rw1, .val astC, .no]) [z0, z1, z2, z3, z4, z5, z6, .dct (dbC.take 1), od0, oi0, od1, oi1] := setV_ok (i := 5) (ρ := [.val pWorse, .val stA, .val (.ref 7), .val ch1, .val rw1, .val astC, .no]) (call2 (by kernel_rfl) (an1 z0 z1 z2 z3 z4 z5 z6 (.dct (dbC.take 1)) od0 oi0))
  rw [seqS_nx h0]
  kernel_rfl
theorem fi2 (z0 z1 z2 z3 z4 z5 z6 : Ob) : seqS fb0 fb1 [.val pWorse, .val stA, .val (.ref 7), .val ch2, .val rw2, .val astC, .no] [z0, z1, z2, z3, z4, z5, z6, .dct (dbC.take 2), od0, oi0, od1, oi1] = .ok (.nx [.val pWorse, .val stA, .val (.ref 7), .val ch2, .val rw2, .val astC, .no]) [z0, z1, z2, z3, z4, z5, z6, .dct (dbC.take 3), od0, oi0, od1, oi1, od2, oi2] := by
  have h0 : fb0 [.val pWorse, .val stA, .val (.ref 7), .val ch2, .val rw2, .val astC, .no] [z0, z1, z2, z3, z4, z5, z6, .dct (dbC.take 2), od0, oi0, od1, oi1] = .ok (.nx [.val pWorse, .val stA, .val (.ref 7), .val ch2, .val rw2, .val astC, .no]) [z0, z1, z2, z3, z4, z5, z6, .dct (dbC.take 2), od0, oi0, od1, oi1, od2, oi2] := setV_ok (i := 5) (ρ := [.val pWorse, .val stA, .val (.ref 7), .val ch2, .val rw2, .val astC, .no]) (call2 (by kernel_rfl) (an2 z0 z1 z2 z3 z4 z5 z6 (.dct (dbC.take 2)) od0 oi0 od1 oi1))
  rw [seqS_nx h0]
  kernel_rfl
theorem fi3 (z0 z1 z2 z3 z4 z5 z6 : Ob) : seqS fb0 fb1 [.val pWorse, .val stA, .val (.ref 7), .val ch3, .val rw3, .val astC, .no] [z0, z1, z2, z3, z4, z5, z6, .dct (dbC.take 3), od0, oi0, od1, oi1, od2, oi2] = .ok (.nx [.val pWorse, .val stA, .val (.ref 7), .val ch3, .val rw3, .val astC, .no]) [z0, z1, z2, z3, z4, z5, z6, .dct (dbC.take 4), od0, oi0, od1, oi1, od2, oi2, od3, oi3] := by
  have h0 : fb0 [.val pWorse, .val stA, .val (.ref 7), .val ch3, .val rw3, .val astC, .no] [z0, z1, z2, z3, z4, z5, z6, .dct (dbC.take 3), od0, oi0, od1, oi1, od2, oi2] = .ok (.nx [.val pWorse, .val stA, .val (.ref 7), .val ch3, .val rw3, .val astC, .no]) [z0, z1, z2, z3, z4, z5, z6, .dct (dbC.take 3), od0, oi0, od1, oi1, od2, oi2, od3, oi3] := setV_ok (i := 5) (ρ := [.val pWorse, .val stA, .val (.ref 7), .val ch3, .val rw3, .val astC, .no]) (call2 (by kernel_rfl) (an3 z0 z1 z2 z3 z4 z5 z6 (.dct (dbC.take 3)) od0 oi0 od1 oi1 od2 oi2))
  rw [seqS_nx h0]
  kernel_rfl
theorem fi4 (z0 z1 z2 z3 z4 z5 z6 : Ob) : seqS fb0 fb1 [.val pWorse, .val stA, .val (.ref 7), .val ch4, .val rw4, .val astC, .no] [z0, z1, z2, z3, z4, z5, z6, .dct (dbC.take 4), od0, oi0, od1, oi1, od2, oi2, od3, oi3] = .ok (.nx [.val pWorse, .val stA, .val (.ref 7), .val ch4, .val rw4, .val astC, .no]) [z0, z1, z2, z3, z4, z5, z6, .dct (dbC.take 5), od0, oi0, od1, oi1, od2, oi2, od3, oi3, od4, oi4] := by
  have h0 : fb0 [.val pWorse, .val stA, .val (.ref 7), .val ch4, .val rw4, .val astC, .no] [z0, z1, z2, z3, z4, z5, z6, .dct (dbC.take 4), od0, oi0, od1, oi1, od2, oi2, od3, oi3] = .ok (.nx [.val pWorse, .val stA, .val (.ref 7), .val ch4, .val rw4, .val astC, .no]) [z0, z1, z2, z3, z4, z5, z6, .dct (dbC.take 4), od0, oi0, od1, oi1, od2, oi2, od3, oi3, od4, oi4] := setV_ok (i := 5) (ρ := [.val pWorse, .val stA, .val (.ref 7), .val ch4, .val rw4, .val astC, .no]) (call2 (by kernel_rfl) (an4 z0 z1 z2 z3 z4 z5 z6 (.dct (dbC.take 4)) od0 oi0 od1 oi1 od2 oi2 od3 oi3))
  rw [seqS_nx h0]
  kernel_rfl
theorem fi5 (z0 z1 z2 z3 z4 z5 z6 : Ob) : seqS fb0 fb1 [.val pWorse, .val stA, .val (.ref 7), .val ch5, .val rw5, .val astC, .no] [z0, z1, z2, z3, z4, z5, z6, .dct (dbC.take 5), od0, oi0, od1, oi1, od2, oi2, od3, oi3, od4, oi4] = .ok (.nx [.val pWorse, .val stA, .val (.ref 7), .val ch5, .val rw5, .val astC, .no]) [z0, z1, z2, z3, z4, z5, z6, .dct (dbC.take 6), od0, oi0, od1, oi1, od2, oi2, od3, oi3, od4, oi4, od5, oi5] := by
  have h0 : fb0 [.val pWorse, .val stA, .val (.ref 7), .val ch5, .val rw5, .val astC, .no] [z0, z1, z2, z3, z4, z5, z6, .dct (dbC.take 5), od0, oi0, od1, oi1, od2, oi2, od3, oi3, od4, oi4] = .ok (.nx [.val pWorse, .val stA, .val (.ref 7), .val ch5, .val rw5, .val astC, .no]) [z0, z1, z2, z3, z4, z5, z6, .dct (dbC.take 5), od0, oi0, od1, oi1, od2, oi2, od3, oi3, od4, oi4, od5, oi5] := setV_ok (i := 5) (ρ := [.val pWorse, .val stA, .val (.ref 7), .val ch5, .val rw5, .val astC, .no]) (call2 (by kernel_rfl) (an5 z0 z1 z2 z3 z4 z5 z6 (.dct (dbC.take 5)) od0 oi0 od1 oi1 od2 oi2 od3 oi3 od4 oi4))
  rw [seqS_nx h0]
  kernel_rfl
theorem fi6 (z0 z1 z2 z3 z4 z5 z6 : Ob) : seqS fb0 fb1 [.val pWorse, .val stA, .val (.ref 7), .val ch6, .val rw6, .val astC, .no] [z0, z1, z2, z3, z4, z5, z6, .dct (dbC.take 6), od0, oi0, od1, oi1, od2, oi2, od3, oi3, od4, oi4, od5, oi5] = .ok (.nx [.val pWorse, .val stA, .val (.ref 7), .val ch6, .val rw6, .val astC, .no]) [z0, z1, z2, z3, z4, z5, z6, .dct (dbC.take 7), od0, oi0, od1, oi1, od2, oi2, od3, oi3, od4, oi4, od5, oi5, od6, oi6] := by
  have h0 : fb0 [.val pWorse, .val stA, .val (.ref 7), .val ch6, .val rw6, .val astC, .no] [z0, z1, z2, z3, z4, z5, z6, .dct (dbC.take 6), od0, oi0, od1, oi1, od2, oi2, od3, oi3, od4, oi4, od5, oi5] = .ok (.nx [.val pWorse, .val stA, .val (.ref 7), .val ch6, .val rw6, .val astC, .no]) [z0, z1, z2, z3, z4, z5, z6, .dct (dbC.take 6), od0, oi0, od1, oi1, od2, oi2, od3, oi3, od4, oi4, od5, oi5, od6, oi6] := setV_ok (i := 5) (ρ := [.val pWorse, .val stA, .val (.ref 7), .val ch6, .val rw6, .val astC, .no]) (call2 (by kernel_rfl) (an6 z0 z1 z2 z3 z4 z5 z6 (.dct (dbC.take 6)) od0 oi0 od1 oi1 od2 oi2 od3 oi3 od4 oi4 od5 oi5))
  rw [seqS_nx h0]
  kernel_rfl
theorem fi7 (z0 z1 z2 z3 z4 z5 z6 : Ob) : seqS fb0 fb1 [.val pWorse, .val stA, .val (.ref 7), .val ch7, .val rw7, .val astC, .no] [z0, z1, z2, z3, z4, z5, z6, .dct (dbC.take 7), od0, oi0, od1, oi1, od2, oi2, od3, oi3, od4, oi4, od5, oi5, od6, oi6] = .ok (.nx [.val pWorse, .val stA, .val (.ref 7), .val ch7, .val rw7, .val astC, .no]) [z0, z1, z2, z3, z4, z5, z6, .dct (dbC.take 8), od0, oi0, od1, oi1, od2, oi2, od3, oi3, od4, oi4, od5, oi5, od6, oi6, od7, oi7] := by
  have h0 : fb0 [.val pWorse, .val stA, .val (.ref 7), .val ch7, .val rw7, .val astC, .no] [z0, z1, z2, z3, z4, z5, z6, .dct (dbC.take 7), od0, oi0, od1, oi1, od2, oi2, od3, oi3, od4, oi4, od5, oi5, od6, oi6] = .ok (.nx [.val pWorse, .val stA, .val (.ref 7), .val ch7, .val rw7, .val astC, .no]) [z0, z1, z2, z3, z4, z5, z6, .dct (dbC.take 7), od0, oi0, od1, oi1, od2, oi2, od3, oi3, od4, oi4, od5, oi5, od6, oi6, od7, oi7] := setV_ok (i := 5) (ρ := [.val pWorse, .val stA, .val (.ref 7), .val ch7, .val rw7, .val astC, .no]) (call2 (by kernel_rfl) (an7 z0 z1 z2 z3 z4 z5 z6 (.dct (dbC.take 7)) od0 oi0 od1 oi1 od2 oi2 od3 oi3 od4 oi4 od5 oi5 od6 oi6))
  rw [seqS_nx h0]
  kernel_rfl
theorem fq3 (z0 z1 z2 z3 z4 z5 z6 : Ob) : fw3 [.val pWorse, .val stA, .val (.ref 7), .val ch7, .val rw7, .val astC, .no] [z0, z1, z2, z3, z4, z5, z6, .dct (dbC.take 8), od0, oi0, od1, oi1, od2, oi2, od3, oi3, od4, oi4, od5, oi5, od6, oi6, od7, oi7] = .ok (.ret (.ins 7 [.ref 24])) [z0, z1, z2, z3, z4, z5, z6, .dctF dbC, od0, oi0, od1, oi1, od2, oi2, od3, oi3, od4, oi4, od5, oi5, od6, oi6, od7, oi7, .dct dbC] := by kernel_rfl
theorem g0 (z0 z1 z2 z3 z4 z5 z6 : Ob) : Sm.forM (.tup [3, 4]) (seqS fb0 fb1) [.tup [ch0, rw0], .tup [ch1, rw1], .tup [ch2, rw2], .tup [ch3, rw3], .tup [ch4, rw4], .tup [ch5, rw5], .tup [ch6, rw6], .tup [ch7, rw7]] [.val pWorse, .val stA, .val (.ref 7), .no, .no, .no, .no] [z0, z1, z2, z3, z4, z5, z6, .dct (dbC.take 0)] = Sm.forM (.tup [3, 4]) (seqS fb0 fb1) [.tup [ch1, rw1], .tup [ch2, rw2], .tup [ch3, rw3], .tup [ch4, rw4], .tup [ch5, rw5], .tup [ch6, rw6], .tup [ch7, rw7]] [.val pWorse, .val stA, .val (.ref 7), .val ch0, .val rw0, .val astC, .no] [z0, z1, z2, z3, z4, z5, z6, .dct (dbC.take 1), od0, oi0] := forM_nx (t := .tup [3, 4]) (d := .tup [ch0, rw0]) (ds := [.tup [ch1, rw1], .tup [ch2, rw2], .tup [ch3, rw3], .tup [ch4, rw4], .tup [ch5, rw5], .tup [ch6, rw6], .tup [ch7, rw7]]) (ρ := [.val pWorse, .val stA, .val (.ref 7), .no, .no, .no, .no]) (ρ1 := [.val pWorse, .val stA, .val (.ref 7), .val ch0, .val rw0, .no, .no]) (by kernel_rfl) (fi0 z0 z1 z2 z3 z4 z5 z6)
theorem g1 (z0 z1 z2 z3 z4 z5 z6 : Ob) : Sm.forM (.tup [3, 4]) (seqS fb0 fb1) [.tup [ch1, rw1], .tup [ch2, rw2], .tup [ch3, rw3], .tup [ch4, rw4], .tup [ch5, rw5], .tup [ch6, rw6], .tup [ch7, rw7]] [.val pWorse, .val stA, .val (.ref 7), .val ch0, .val rw0, .val astC, .no] [z0, z1, z2, z3, z4, z5, z6, .dct (dbC.take 1), od0, oi0] = Sm.forM (.tup [3, 4]) (seqS fb0 fb1) [.tup [ch2, rw2], .tup [ch3, rw3], .tup [ch4, rw4], .tup [ch5, rw5], .tup [ch6, rw6], .tup [ch7, rw7]] [.val pWorse, .val stA, .val (.ref 7), .val ch1, .val rw1, .val astC, .no] [z0, z1, z2, z3, z4, z5, z6, .dct (dbC.take 2), od0, oi0, od1, oi1] := forM_nx (t := .tup [3, 4]) (d := .tup [ch1, rw1]) (ds := [.tup [ch2, rw2], .tup [ch3, rw3], .tup [ch4, rw4], .tup [ch5, rw5], .tup [ch6, rw6], .tup [ch7, rw7]]) (ρ := [.val pWorse, .val stA, .val (.ref 7), .val ch0, .val rw0, .val astC, .no]) (ρ1 := [.val pWorse, .val stA, .val (.ref 7), .val ch1, .val rw1, .val astC, .no]) (by kernel_rfl) (fi1 z0 z1 z2 z3 z4 z5 z6)
theorem g2 (z0 z1 z2 z3 z4 z5 z6 : Ob) : Sm.forM (.tup [3, 4]) (seqS fb0 fb1) [.tup [ch2, rw2], .tup [ch3, rw3], .tup [ch4, rw4], .tup [ch5, rw5], .tup [ch6, rw6], .tup [ch7, rw7]] [.val pWorse, .val stA, .val (.ref 7), .val ch1, .val rw1, .val astC, .no] [z0, z1, z2, z3, z4, z5, z6, .dct (dbC.take 2), od0, oi0, od1, oi1] = Sm.forM (.tup [3, 4]) (seqS fb0 fb1) [.tup [ch3, rw3], .tup [ch4, rw4], .tup [ch5, rw5], .tup [ch6, rw6], .tup [ch7, rw7]] [.val pWorse, .val stA, .val (.ref 7), .val ch2, .val rw2, .val astC, .no] [z0, z1, z2, z3, z4, z5, z6, .dct (dbC.take 3), od0, oi0, od1, oi1, od2, oi2] := forM_nx (t := .tup [3, 4]) (d := .tup [ch2, rw2]) (ds := [.tup [ch3, rw3], .tup [ch4, rw4], .tup [ch5, rw5], .tup [ch6, rw6], .tup [ch7, rw7]]) (ρ := [.val pWorse, .val stA, .val (.ref 7), .val ch1, .val rw1, .val astC, .no]) (ρ1 := [.val pWorse, .val stA, .val (.ref 7), .val ch2, .val rw2, .val astC, .no]) (by kernel_rfl) (fi2 z0 z1 z2 z3 z4 z5 z6)
theorem g3 (z0 z1 z2 z3 z4 z5 z6 : Ob) : Sm.forM (.tup [3, 4]) (seqS fb0 fb1) [.tup [ch3, rw3], .tup [ch4, rw4], .tup [ch5, rw5], .tup [ch6, rw6], .tup [ch7, rw7]] [.val pWorse, .val stA, .val (.ref 7), .val ch2, .val rw2, .val astC, .no] [z0, z1, z2, z3, z4, z5, z6, .dct (dbC.take 3), od0, oi0, od1, oi1, od2, oi2] = Sm.forM (.tup [3, 4]) (seqS fb0 fb1) [.tup [ch4, rw4], .tup [ch5, rw5], .tup [ch6, rw6], .tup [ch7, rw7]] [.val pWorse, .val stA, .val (.ref 7), .val ch3, .val rw3, .val astC, .no] [z0, z1, z2, z3, z4, z5, z6, .dct (dbC.take 4), od0, oi0, od1, oi1, od2, oi2, od3, oi3] := forM_nx (t := .tup [3, 4]) (d := .tup [ch3, rw3]) (ds := [.tup [ch4, rw4], .tup [ch5, rw5], .tup [ch6, rw6], .tup [ch7, rw7]]) (ρ := [.val pWorse, .val stA, .val (.ref 7), .val ch2, .val rw2, .val astC, .no]) (ρ1 := [.val pWorse, .val stA, .val (.ref 7), .val ch3, .val rw3, .val astC, .no]) (by kernel_rfl) (fi3 z0 z1 z2 z3 z4 z5 z6)
theorem g4 (z0 z1 z2 z3 z4 z5 z6 : Ob) : Sm.forM (.tup [3, 4]) (seqS fb0 fb1) [.tup [ch4, rw4], .tup [ch5, rw5], .tup [ch6, rw6], .tup [ch7, rw7]] [.val pWorse, .val stA, .val (.ref 7), .val ch3, .val rw3, .val astC, .no] [z0, z1, z2, z3, z4, z5, z6, .dct (dbC.take 4), od0, oi0, od1, oi1, od2, oi2, od3, oi3] = Sm.forM (.tup [3, 4]) (seqS fb0 fb1) [.tup [ch5, rw5], .tup [ch6, rw6], .tup [ch7, rw7]] [.val pWorse, .val stA, .val (.ref 7), .val ch4, .val rw4, .val astC, .no] [z0, z1, z2, z3, z4, z5, z6, .dct (dbC.take 5), od0, oi0, od1, oi1, od2, oi2, od3, oi3, od4, oi4] := forM_nx (t := .tup [3, 4]) (d := .tup [ch4, rw4]) (ds := [.tup [ch5, rw5], .tup [ch6, rw6], .tup [ch7, rw7]]) (ρ := [.val pWorse, .val stA, .val (.ref 7), .val ch3, .val rw3, .val astC, .no]) (ρ1 := [.val pWorse, .val stA, .val (.ref 7), .val ch4, .val rw4, .val astC, .no]) (by kernel_rfl) (fi4 z0 z1 z2 z3 z4 z5 z6)
theorem g5 (z0 z1 z2 z3 z4 z5 z6 : Ob) : Sm.forM (.tup [3, 4]) (seqS fb0 fb1) [.tup [ch5, rw5], .tup [ch6, rw6], .tup [ch7, rw7]] [.val pWorse, .val stA, .val (.ref 7), .val ch4, .val rw4, .val astC, .no] [z0, z1, z2, z3, z4, z5, z6, .dct (dbC.take 5), od0, oi0, od1, oi1, od2, oi2, od3, oi3, od4, oi4] = Sm.forM (.tup [3, 4]) (seqS fb0 fb1) [.tup [ch6, rw6], .tup [ch7, rw7]] [.val pWorse, .val stA, .val (.ref 7), .val ch5, .val rw5, .val astC, .no] [z0, z1, z2, z3, z4, z5, z6, .dct (dbC.take 6), od0, oi0, od1, oi1, od2, oi2, od3, oi3, od4, oi4, od5, oi5] := forM_nx (t := .tup [3, 4]) (d := .tup [ch5, rw5]) (ds := [.tup [ch6, rw6], .tup [ch7, rw7]]) (ρ := [.val pWorse, .val stA, .val (.ref 7), .val ch4, .val rw4, .val astC, .no]) (ρ1 := [.val pWorse, .val stA, .val (.ref 7), .val ch5, .val rw5, .val astC, .no]) (by kernel_rfl) (fi5 z0 z1 z2 z3 z4 z5 z6)
theorem g6 (z0 z1 z2 z3 z4 z5 z6 : Ob) : Sm.forM (.tup [3, 4]) (seqS fb0 fb1) [.tup [ch6, rw6], .tup [ch7, rw7]] [.val pWorse, .val stA, .val (.ref 7), .val ch5, .val rw5, .val astC, .no] [z0, z1, z2, z3, z4, z5, z6, .dct (dbC.take 6), od0, oi0, od1, oi1, od2, oi2, od3, oi3, od4, oi4, od5, oi5] = Sm.forM (.tup [3, 4]) (seqS fb0 fb1) [.tup [ch7, rw7]] [.val pWorse, .val stA, .val (.ref 7), .val ch6, .val rw6, .val astC, .no] [z0, z1, z2, z3, z4, z5, z6, .dct (dbC.take 7), od0, oi0, od1, oi1, od2, oi2, od3, oi3, od4, oi4, od5, oi5, od6, oi6] := forM_nx (t := .tup [3, 4]) (d := .tup [ch6, rw6]) (ds := [.tup [ch7, rw7]]) (ρ := [.val pWorse, .val stA, .val (.ref 7), .val ch5, .val rw5, .val astC, .no]) (ρ1 := [.val pWorse, .val stA, .val (.ref 7), .val ch6, .val rw6, .val astC, .no]) (by kernel_rfl) (fi6 z0 z1 z2 z3 z4 z5 z6)
theorem g7 (z0 z1 z2 z3 z4 z5 z6 : Ob) : Sm.forM (.tup [3, 4]) (seqS fb0 fb1) [.tup [ch7, rw7]] [.val pWorse, .val stA, .val (.ref 7), .val ch6, .val rw6, .val astC, .no] [z0, z1, z2, z3, z4, z5, z6, .dct (dbC.take 7), od0, oi0, od1, oi1, od2, oi2, od3, oi3, od4, oi4, od5, oi5, od6, oi6] = Sm.forM (.tup [3, 4]) (seqS fb0 fb1) [] [.val pWorse, .val stA, .val (.ref 7), .val ch7, .val rw7, .val astC, .no] [z0, z1, z2, z3, z4, z5, z6, .dct (dbC.take 8), od0, oi0, od1, oi1, od2, oi2, od3, oi3, od4, oi4, od5, oi5, od6, oi6, od7, oi7] := forM_nx (t := .tup [3, 4]) (d := .tup [ch7, rw7]) (ds := []) (ρ := [.val pWorse, .val stA, .val (.ref 7), .val ch6, .val rw6, .val astC, .no]) (ρ1 := [.val pWorse, .val stA, .val (.ref 7), .val ch7, .val rw7, .val astC, .no]) (by kernel_rfl) (fi7 z0 z1 z2 z3 z4 z5 z6)
theorem g8 (z0 z1 z2 z3 z4 z5 z6 : Ob) : Sm.forM (.tup [3, 4]) (seqS fb0 fb1) [] [.val pWorse, .val stA, .val (.ref 7), .val ch7, .val rw7, .val astC, .no] [z0, z1, z2, z3, z4, z5, z6, .dct (dbC.take 8), od0, oi0, od1, oi1, od2, oi2, od3, oi3, od4, oi4, od5, oi5, od6, oi6, od7, oi7] = .ok (.nx [.val pWorse, .val stA, .val (.ref 7), .val ch7, .val rw7, .val astC, .no]) [z0, z1, z2, z3, z4, z5, z6, .dct (dbC.take 8), od0, oi0, od1, oi1, od2, oi2, od3, oi3, od4, oi4, od5, oi5, od6, oi6, od7, oi7] := by kernel_rfl
theorem hl (z0 z1 z2 z3 z4 z5 z6 : Ob) : bd (fwI [.val pWorse, .val stA, .val (.ref 7), .no, .no, .no, .no]) (fun ds => Sm.forM (.tup [3, 4]) (seqS fb0 fb1) ds [.val pWorse, .val stA, .val (.ref 7), .no, .no, .no, .no]) [z0, z1, z2, z3, z4, z5, z6, .dct (dbC.take 0)] = .ok (.nx [.val pWorse, .val stA, .val (.ref 7), .val ch7, .val rw7, .val astC, .no]) [z0, z1, z2, z3, z4, z5, z6, .dct (dbC.take 8), od0, oi0, od1, oi1, od2, oi2, od3, oi3, od4, oi4, od5, oi5, od6, oi6, od7, oi7] := (bd_ok (fqI z0 z1 z2 z3 z4 z5 z6)).trans ((g0 z0 z1 z2 z3 z4 z5 z6).trans ((g1 z0 z1 z2 z3 z4 z5 z6).trans ((g2 z0 z1 z2 z3 z4 z5 z6).trans ((g3 z0 z1 z2 z3 z4 z5 z6).trans ((g4 z0 z1 z2 z3 z4 z5 z6).trans ((g5 z0 z1 z2 z3 z4 z5 z6).trans ((g6 z0 z1 z2 z3 z4 z5 z6).trans ((g7 z0 z1 z2 z3 z4 z5 z6).trans (g8 z0 z1 z2 z3 z4 z5 z6)))))))))
theorem hb (z0 z1 z2 z3 z4 z5 z6 : Ob) : b_fewest [.val pWorse, .val stA, .no, .no, .no, .no, .no] [z0, z1, z2, z3, z4, z5, z6] = .ok (.ret (.ins 7 [.ref 24])) [z0, z1, z2, z3, z4, z5, z6, .dctF dbC, od0, oi0, od1, oi1, od2, oi2, od3, oi3, od4, oi4, od5, oi5, od6, oi6, od7, oi7, .dct dbC] := by
  rw [fw_eq, seqS_nx (fq0 z0 z1 z2 z3 z4 z5 z6), seqS_nx (fq1 z0 z1 z2 z3 z4 z5 z6)]
  exact (seqS_nx (a := fun ρ => bd (fwI ρ) fun ds => Sm.forM (.tup [3, 4]) (seqS fb0 fb1) ds ρ) (b := fw3) (hl z0 z1 z2 z3 z4 z5 z6)).trans (fq3 z0 z1 z2 z3 z4 z5 z6)
theorem fewestC (z0 z1 z2 z3 z4 z5 z6 : Ob) : m_fewest [pWorse, stA] [z0, z1, z2, z3, z4, z5, z6] = .ok (.ins 7 [.ref 24]) [z0, z1, z2, z3, z4, z5, z6, .dctF dbC, od0, oi0, od1, oi1, od2, oi2, od3, oi3, od4, oi4, od5, oi5, od6, oi6, od7, oi7, .dct dbC] := fnM_ok rfl (hb z0 z1 z2 z3 z4 z5 z6)
def fz0 : Sm.Env → M Out := (setV 2 fun ρ => (bd (consM (vl ρ 0) (consM (vl ρ 1) (rt []))) fun ds => callM 2 m_fewest ds))
def fz1 : Sm.Env → M Out := (fun ρ => bd (bd (boolT (c1 (isoD 8) (consM (vb ρ 2) (consM (rt (.cls 6)) (rt []))))) fun t => iteM t (c1 lenD (consM (bd (vl ρ 2) (slotM 6 0)) (rt []))) (rt .non)) fun d => rt (.ret d))
theorem fz_eq : b_fewest_size = seqS fz0 fz1 := rfl
theorem sizeC (z0 z1 z2 z3 z4 z5 z6 : Ob) : m_fewest_size [pWorse, stA] [z0, z1, z2, z3, z4, z5, z6] = .ok .non [z0, z1, z2, z3, z4, z5, z6, .dctF dbC, od0, oi0, od1, oi1, od2, oi2, od3, oi3, od4, oi4, od5, oi5, od6, oi6, od7, oi7, .dct dbC] := by
  have h0 : fz0 [.val pWorse, .val stA, .no] [z0, z1, z2, z3, z4, z5, z6] = .ok (.nx [.val pWorse, .val stA, .val (.ins 7 [.ref 24])]) [z0, z1, z2, z3, z4, z5, z6, .dctF dbC, od0, oi0, od1, oi1, od2, oi2, od3, oi3, od4, oi4, od5, oi5, od6, oi6, od7, oi7, .dct dbC] := setV_ok (i := 2) (ρ := [.val pWorse, .val stA, .no]) (call2 (by kernel_rfl) (fewestC z0 z1 z2 z3 z4 z5 z6))
  have h1 : fz1 [.val pWorse, .val stA, .val (.ins 7 [.ref 24])] [z0, z1, z2, z3, z4, z5, z6, .dctF dbC, od0, oi0, od1, oi1, od2, oi2, od3, oi3, od4, oi4, od5, oi5, od6, oi6, od7, oi7, .dct dbC] = .ok (.ret .non) [z0, z1, z2, z3, z4, z5, z6, .dctF dbC, od0, oi0, od1, oi1, od2, oi2, od3, oi3, od4, oi4, od5, oi5, od6, oi6, od7, oi7, .dct dbC] := by kernel_rfl
  have h : b_fewest_size [.val pWorse, .val stA, .no] [z0, z1, z2, z3, z4, z5, z6] = .ok (.ret .non) [z0, z1, z2, z3, z4, z5, z6, .dctF dbC, od0, oi0, od1, oi1, od2, oi2, od3, oi3, od4, oi4, od5, oi5, od6, oi6, od7, oi7, .dct dbC] := by
    rw [fz_eq, seqS_nx h0]
    exact h1
  exact fnM_ok rfl h
end Pu

/-! text: K6 -/
set_option Elab.async false
set_option linter.all false
set_option maxRecDepth 100000
set_option maxHeartbeats 0
namespace Pu
open PySem PySem.Spec L2 Sm Wk

def lr0 : Sm.Env → M Out := (setV 0 fun ρ => (bd (consM (tupM (consM (rt .non) (consM (tupM (rt [])) (rt [])))) (consM (tupM (consM (rt (.str "b")) (consM (tupM (consM (tupM (consM (rt (.str "above")) (consM (rt (.int 1)) (rt [])))) (consM (tupM (consM (rt (.str "number")) (consM (rt (.int 0)) (rt [])))) (rt [])))) (rt [])))) (consM (tupM (consM (rt .non) (consM (tupM (consM (tupM (consM (rt (.str "number")) (consM (rt (.int 1)) (rt [])))) (rt []))) (rt [])))) (rt [])))) fun ds => bd (opt (if ds.length ≤ LIM then some () else none)) fun _ => noX (m_Steps_of [.cls 0, .tup ds])))
def lr1 : Sm.Env → M Out := (parS [4, 5] 2 fun ρ => (bd (bd (consM (bd (consM (rt (.str "follow")) (rt [])) fun ds => bd (opt (if ds.length = 1 then some () else none)) fun _ => callM 4 m_Way_init (kd_Way_init_2 ds)) (consM (tupM (consM (rt (.str "move")) (rt []))) (rt []))) fun as => bd (consM (rt (.int 3)) (rt [])) fun zs => bd (opt (if as.length = 2 ∧ zs.length = 1 then some () else none)) fun _ => callM 3 m_Plan_init (as ++ zs)) fun d => bd (bd (bd (consM (bd (rt []) fun ds => bd (opt (if ds.length = 0 then some () else none)) fun _ => callM 4 m_Way_init (kd_Way_init_0 ds)) (consM (tupM (consM (rt (.str "copy")) (consM (rt (.str "move")) (rt [])))) (rt []))) fun as => callM 3 m_Plan_init (as ++ [.int 4])) fun d => bd (rt []) fun ss => rt (.val d :: ss)) fun ss => rt (.val d :: ss)))
def lr2 : Sm.Env → M Out := (setV 1 fun ρ => (bd (consM (vl ρ 4) (consM (vl ρ 0) (rt []))) fun ds => callM 2 m_fewest ds))
def lr3 : Sm.Env → M Out := (fun ρ => bd (orT (boolT (o2 neD (bd (vl ρ 1) (slotM 6 0)) (tupM (consM (tupM (consM (rt (.int 1)) (consM (rt (.int 0)) (rt [])))) (rt []))))) (orT (boolT (o2 neD (bd (c1N listX2 (consM (bd (vl ρ 1) (slotM 6 1)) (rt []))) fun ds => rt (.lst ds)) (bd (lstM (consM (tupM (rt [])) (rt []))) fun ds => rt (.lst ds)))) (boolT (bd (bd (consM (vl ρ 5) (consM (vl ρ 0) (rt []))) fun ds => callM 2 m_fewest_size ds) fun x => op1 (isN true) x)))) fun t => iteM t ((fun ρ => bd (rt (.bl false)) fun d => rt (.ret d)) ρ) (nextS ρ))
def lrR : Sm.Env → M Out := (seqS (fun ρ => bd (boolT (o2 neD (bd (bd (consM (vl ρ 0) (consM (tupM (consM (tupM (consM (rt (.int 1)) (consM (rt (.int 0)) (rt [])))) (consM (tupM (consM (rt (.int 1)) (consM (rt (.int 1)) (rt [])))) (consM (tupM (consM (rt (.int 2)) (consM (rt (.int 0)) (rt [])))) (rt []))))) (rt []))) fun ds => callM 2 m_labelled ds) fun d => bd (insM 0 d) fun d => noX (callM 1 m_Steps_rows [d])) (tupM (consM (tupM (consM (rt (.str "a")) (consM (tupM (rt [])) (rt [])))) (consM (tupM (consM (rt (.str "b")) (consM (tupM (consM (tupM (consM (rt (.str "label")) (consM (rt (.str "a")) (rt [])))) (consM (tupM (consM (rt (.str "label")) (consM (rt (.str "a")) (rt [])))) (rt [])))) (rt [])))) (consM (tupM (consM (rt .non) (consM (tupM (consM (tupM (consM (rt (.str "label")) (consM (rt (.str "b")) (rt [])))) (rt []))) (rt [])))) (rt []))))))) fun t => iteM t ((fun ρ => bd (rt (.bl false)) fun d => rt (.ret d)) ρ) (nextS ρ))
  (seqS (fun ρ => bd (orT (boolT (bd (bd (consM (tupM (consM (tupM (consM (rt (.int 1)) (consM (rt (.int 1)) (rt [])))) (rt []))) (consM (bd (vl ρ 1) (slotM 6 2)) (consM (bd (vl ρ 1) (slotM 6 1)) (rt [])))) fun ds => callM 3 m_Fewest_init ds) fun d => bd (insM 6 d) fun d => bd (consM (vl ρ 4) (consM (vl ρ 0) (rt []))) fun ds => callM 3 m_Fewest_shows (d :: ds))) (notT (boolT (bd (bd (consM (bd (vl ρ 1) (slotM 6 0)) (consM (bd (vl ρ 1) (slotM 6 2)) (consM (bd (tupM (rt [])) fun k => bd (bd (consM (bd (lstM (consM (tupM (consM (rt (.str "move")) (consM (rt (.int 0)) (consM (rt (.int 1)) (rt []))))) (rt []))) fun ds => rt (.lst ds)) (rt [])) fun ds => callM 1 m_Astray_init ds) fun v => newT1 k v) (rt [])))) fun ds => callM 3 m_Fewest_init ds) fun d => bd (insM 6 d) fun d => bd (consM (vl ρ 4) (consM (vl ρ 0) (rt []))) fun ds => callM 3 m_Fewest_shows (d :: ds))))) fun t => iteM t ((fun ρ => bd (rt (.bl false)) fun d => rt (.ret d)) ρ) (nextS ρ))
  (seqS (fun ρ => bd (orT (boolT (bd (bd (consM (bd (vl ρ 1) (slotM 6 0)) (consM (bd (vl ρ 1) (slotM 6 2)) (consM newT0 (rt [])))) fun ds => callM 3 m_Fewest_init ds) fun d => bd (insM 6 d) fun d => bd (consM (vl ρ 4) (consM (vl ρ 0) (rt []))) fun ds => callM 3 m_Fewest_shows (d :: ds))) (boolT (bd (bd (consM (bd (vl ρ 1) (slotM 6 1)) (rt [])) fun ds => callM 1 m_Hopeless_init ds) fun d => bd (insM 7 d) fun d => bd (consM (vl ρ 4) (consM (vl ρ 0) (rt []))) fun ds => callM 3 m_Hopeless_shows (d :: ds)))) fun t => iteM t ((fun ρ => bd (rt (.bl false)) fun d => rt (.ret d)) ρ) (nextS ρ))
  (seqS (setV 2 fun ρ => (bd (consM (bd (rt []) fun ds => bd (opt (if ds.length = 0 then some () else none)) fun _ => callM 4 m_Way_init (kd_Way_init_0 ds)) (consM (tupM (consM (rt (.str "append")) (rt []))) (rt []))) fun as => callM 3 m_Plan_init (as ++ [.int 4])))
  (seqS (fun ρ => bd (orT (boolT (o2 neD (bd (bd (consM (vl ρ 2) (consM (vl ρ 0) (rt []))) fun ds => callM 2 m_fewest ds) (slotM 6 0)) (tupM (rt [])))) (orT (boolT (o2 neT0 (bd (bd (consM (vl ρ 2) (consM (vl ρ 0) (rt []))) fun ds => callM 2 m_fewest ds) (slotM 6 1)) newT0)) (boolT (o2 neD (bd (consM (bd (consM (bd (rt []) fun ds => bd (opt (if ds.length = 0 then some () else none)) fun _ => callM 4 m_Way_init (kd_Way_init_0 ds)) (consM (tupM (consM (rt (.str "put")) (rt []))) (rt []))) fun as => callM 3 m_Plan_init (as ++ [.int 4])) (consM (vl ρ 0) (rt []))) fun ds => callM 2 m_fewest_size ds) (rt (.int 3)))))) fun t => iteM t ((fun ρ => bd (rt (.bl false)) fun d => rt (.ret d)) ρ) (nextS ρ))
  (seqS (setV 3 fun ρ => (bd (consM (tupM (consM (rt (.str "a")) (consM (tupM (rt [])) (rt [])))) (consM (tupM (consM (rt (.str "a")) (consM (tupM (rt [])) (rt [])))) (consM (tupM (consM (rt .non) (consM (tupM (consM (tupM (consM (rt (.str "above")) (consM (rt (.int 1)) (rt [])))) (consM (tupM (consM (rt (.str "number")) (consM (rt (.int 0)) (rt [])))) (rt [])))) (rt [])))) (rt [])))) fun ds => bd (opt (if ds.length ≤ LIM then some () else none)) fun _ => noX (m_Steps_of [.cls 0, .tup ds])))
  (seqS (fun ρ => bd (boolT (o2 neD (o2 ixD (bd (bd (consM (vl ρ 3) (consM (tupM (consM (tupM (consM (rt (.int 2)) (consM (rt (.int 1)) (rt [])))) (rt []))) (rt []))) fun ds => callM 2 m_labelled ds) fun d => bd (insM 0 d) fun d => noX (callM 1 m_Steps_rows [d])) (rt (.int 2))) (tupM (consM (rt .non) (consM (tupM (consM (tupM (consM (rt (.str "above")) (consM (rt (.int 1)) (rt [])))) (consM (tupM (consM (rt (.str "label")) (consM (rt (.str "a")) (rt [])))) (rt [])))) (rt [])))))) fun t => iteM t ((fun ρ => bd (rt (.bl false)) fun d => rt (.ret d)) ρ) (nextS ρ))
  (fun ρ => bd (c1 (isoD 8) (consM (bd (consM (bd (consM (bd (rt []) fun ds => bd (opt (if ds.length = 0 then some () else none)) fun _ => callM 4 m_Way_init (kd_Way_init_0 ds)) (consM (tupM (consM (rt (.str "put")) (rt []))) (rt []))) fun as => callM 3 m_Plan_init (as ++ [.int 4])) (consM (vl ρ 3) (rt []))) fun ds => callM 2 m_fewest ds) (consM (rt (.cls 7)) (rt [])))) fun d => rt (.ret d)))))))))
theorem lr_eq : b__law_labels_right = seqS lr0 (seqS lr1 (seqS lr2 (seqS lr3 lrR))) := rfl
def tA : Sm.Env → M Bool := fun ρ => (boolT (o2 neD (bd (vl ρ 1) (slotM 6 0)) (tupM (consM (tupM (consM (rt (.int 1)) (consM (rt (.int 0)) (rt [])))) (rt [])))))
def tB : Sm.Env → M Bool := fun ρ => (boolT (o2 neD (bd (c1N listX2 (consM (bd (vl ρ 1) (slotM 6 1)) (rt []))) fun ds => rt (.lst ds)) (bd (lstM (consM (tupM (rt [])) (rt []))) fun ds => rt (.lst ds))))
def tC : Sm.Env → M Bool := fun ρ => (boolT (bd (bd (consM (vl ρ 5) (consM (vl ρ 0) (rt []))) fun ds => callM 2 m_fewest_size ds) fun x => op1 (isN true) x))
theorem lr3_eq : lr3 = fun ρ => bd (orT (tA ρ) (orT (tB ρ) (tC ρ))) fun t => iteM t ((fun ρ => bd (rt (.bl false)) fun d => rt (.ret d)) ρ) (nextS ρ) := rfl
def sureD : D := .ins 3 [.lst [.tup [.tup [.str "a", .tup []], .tup [.str "b", .tup [.tup [.str "label", .str "a"], .tup [.str "number", .int 0]]], .tup [.non, .tup [.tup [.str "number", .int 1]]]], .tup [.tup [.str "b", .tup [.tup [.str "label", .str "a"], .tup [.str "number", .int 1]]], .tup [.str "a", .tup []], .tup [.non, .tup [.tup [.str "number", .int 0]]]], .tup [.tup [.str "b", .tup [.tup [.str "label", .str "a"], .tup [.str "number", .int 2]]], .tup [.non, .tup [.tup [.str "number", .int 0]]], .tup [.str "a", .tup []]], .tup [.tup [.str "a", .tup []], .tup [.non, .tup [.tup [.str "number", .int 2]]], .tup [.str "b", .tup [.tup [.str "label", .str "a"], .tup [.str "number", .int 0]]]], .tup [.tup [.non, .tup [.tup [.str "number", .int 2]]], .tup [.str "a", .tup []], .tup [.str "b", .tup [.tup [.str "label", .str "a"], .tup [.str "number", .int 1]]]], .tup [.tup [.non, .tup [.tup [.str "number", .int 1]]], .tup [.str "b", .tup [.tup [.str "label", .str "a"], .tup [.str "number", .int 2]]], .tup [.str "a", .tup []]]]]
def foundD : D := .ins 6 [.tup [.tup [.int 1, .int 0]], .ref 6, sureD]
def dbt0 : List (D × D) := [(.tup [], .ins 4 [.lst [.tup [.str "move", .int 0, .int 1]]])]
def preS : Sm.Env → M Out := seqS lr0 (seqS lr1 lr2)
def stoR : Res Out → Sto
  | .ok _ S => S
  | _ => []
def S0r : Sto := stoR (preS [.no, .no, .no, .no, .no, .no] [])
theorem pre_ok : preS [.no, .no, .no, .no, .no, .no] [] = .ok (.nx [.val stA, .val foundD, .no, .no, .val pPlan, .val pWorse]) S0r := by kernel_rfl
theorem S0_len : S0r.length = 7 := by kernel_rfl
theorem S0_at : S0r[6]? = some (.dct dbt0) := by kernel_rfl
theorem list7 {l : Sto} {o : Ob} (h : l.length = 7) (h6 : l[6]? = some o) : ∃ z0 z1 z2 z3 z4 z5, l = [z0, z1, z2, z3, z4, z5, o] := by
  match l, h with
  | [a, b, c, d, e, f, g], _ =>
    have q : g = o := Option.some.inj h6
    exact ⟨a, b, c, d, e, f, by rw [q]⟩
def okO : Res Out → Bool
  | .ok (.ret (.bl true)) _ => true
  | _ => false
theorem okO_of {r : Res Out} (h : okO r = true) : ∃ S, r = .ok (.ret (.bl true)) S := by
  unfold okO at h
  split at h
  · exact ⟨_, rfl⟩
  · cases h
theorem or3 {a b c : M Bool} {S S1 S2 S3 : Sto} {x : Bool} (h1 : a S = .ok false S1) (h2 : b S1 = .ok false S2) (h3 : c S2 = .ok x S3) : orT a (orT b c) S = .ok x S3 := by
  unfold orT
  rw [bd_ok h1]
  show bd b _ S1 = _
  rw [bd_ok h2]
  exact h3
theorem ite3 {m : M Bool} {x : M Out} {ρ : Sm.Env} {S S1 : Sto} (h : m S = .ok false S1) : bd m (fun t => iteM t x (nextS ρ)) S = .ok (.nx ρ) S1 := by
  rw [bd_ok h]
  rfl
theorem tA_ok (z0 z1 z2 z3 z4 z5 : Ob) : tA [.val stA, .val foundD, .no, .no, .val pPlan, .val pWorse] [z0, z1, z2, z3, z4, z5, .dct dbt0] = .ok false [z0, z1, z2, z3, z4, z5, .dct dbt0] := by kernel_rfl
theorem tB_ok (z0 z1 z2 z3 z4 z5 : Ob) : tB [.val stA, .val foundD, .no, .no, .val pPlan, .val pWorse] [z0, z1, z2, z3, z4, z5, .dct dbt0] = .ok false [z0, z1, z2, z3, z4, z5, .dct dbt0] := by kernel_rfl
theorem tC_ok (z0 z1 z2 z3 z4 z5 : Ob) : tC [.val stA, .val foundD, .no, .no, .val pPlan, .val pWorse] [z0, z1, z2, z3, z4, z5, .dct dbt0] = .ok false [z0, z1, z2, z3, z4, z5, .dct dbt0, .dctF dbC, od0, oi0, od1, oi1, od2, oi2, od3, oi3, od4, oi4, od5, oi5, od6, oi6, od7, oi7, .dct dbC] := by
  have q : (consM (vl [.val stA, .val foundD, .no, .no, .val pPlan, .val pWorse] 5) (consM (vl [.val stA, .val foundD, .no, .no, .val pPlan, .val pWorse] 0) (rt []))) [z0, z1, z2, z3, z4, z5, .dct dbt0] = .ok [pWorse, stA] [z0, z1, z2, z3, z4, z5, .dct dbt0] := by kernel_rfl
  have h1 : bd (consM (vl [.val stA, .val foundD, .no, .no, .val pPlan, .val pWorse] 5) (consM (vl [.val stA, .val foundD, .no, .no, .val pPlan, .val pWorse] 0) (rt []))) (fun ds => callM 2 m_fewest_size ds) [z0, z1, z2, z3, z4, z5, .dct dbt0] = .ok .non [z0, z1, z2, z3, z4, z5, .dct dbt0, .dctF dbC, od0, oi0, od1, oi1, od2, oi2, od3, oi3, od4, oi4, od5, oi5, od6, oi6, od7, oi7, .dct dbC] := call2 q (sizeC z0 z1 z2 z3 z4 z5 (.dct dbt0))
  have h2 : bd (bd (consM (vl [.val stA, .val foundD, .no, .no, .val pPlan, .val pWorse] 5) (consM (vl [.val stA, .val foundD, .no, .no, .val pPlan, .val pWorse] 0) (rt []))) (fun ds => callM 2 m_fewest_size ds)) (fun x => op1 (isN true) x) [z0, z1, z2, z3, z4, z5, .dct dbt0] = .ok (.bl false) [z0, z1, z2, z3, z4, z5, .dct dbt0, .dctF dbC, od0, oi0, od1, oi1, od2, oi2, od3, oi3, od4, oi4, od5, oi5, od6, oi6, od7, oi7, .dct dbC] := by
    rw [bd_ok h1]
    rfl
  have h3 : boolT (bd (bd (consM (vl [.val stA, .val foundD, .no, .no, .val pPlan, .val pWorse] 5) (consM (vl [.val stA, .val foundD, .no, .no, .val pPlan, .val pWorse] 0) (rt []))) (fun ds => callM 2 m_fewest_size ds)) (fun x => op1 (isN true) x)) [z0, z1, z2, z3, z4, z5, .dct dbt0] = .ok false [z0, z1, z2, z3, z4, z5, .dct dbt0, .dctF dbC, od0, oi0, od1, oi1, od2, oi2, od3, oi3, od4, oi4, od5, oi5, od6, oi6, od7, oi7, .dct dbC] := by
    unfold boolT
    rw [bd_ok h2]
    rfl
  exact h3
theorem lr3_ok (z0 z1 z2 z3 z4 z5 : Ob) : lr3 [.val stA, .val foundD, .no, .no, .val pPlan, .val pWorse] [z0, z1, z2, z3, z4, z5, .dct dbt0] = .ok (.nx [.val stA, .val foundD, .no, .no, .val pPlan, .val pWorse]) [z0, z1, z2, z3, z4, z5, .dct dbt0, .dctF dbC, od0, oi0, od1, oi1, od2, oi2, od3, oi3, od4, oi4, od5, oi5, od6, oi6, od7, oi7, .dct dbC] := by
  rw [lr3_eq]
  have h : orT (tA [.val stA, .val foundD, .no, .no, .val pPlan, .val pWorse]) (orT (tB [.val stA, .val foundD, .no, .no, .val pPlan, .val pWorse]) (tC [.val stA, .val foundD, .no, .no, .val pPlan, .val pWorse])) [z0, z1, z2, z3, z4, z5, .dct dbt0] = .ok false [z0, z1, z2, z3, z4, z5, .dct dbt0, .dctF dbC, od0, oi0, od1, oi1, od2, oi2, od3, oi3, od4, oi4, od5, oi5, od6, oi6, od7, oi7, .dct dbC] := by
    exact or3 (tA_ok z0 z1 z2 z3 z4 z5) (tB_ok z0 z1 z2 z3 z4 z5) (tC_ok z0 z1 z2 z3 z4 z5)
  exact ite3 h
theorem lrR_ok (z0 z1 z2 z3 z4 z5 : Ob) : okO (lrR [.val stA, .val foundD, .no, .no, .val pPlan, .val pWorse] [z0, z1, z2, z3, z4, z5, .dct dbt0, .dctF dbC, od0, oi0, od1, oi1, od2, oi2, od3, oi3, od4, oi4, od5, oi5, od6, oi6, od7, oi7, .dct dbC]) = true := by kernel_rfl
theorem seqS_as (a b c : Sm.Env → M Out) (ρ : Sm.Env) (S : Sto) : seqS a (seqS b c) ρ S = seqS (seqS a b) c ρ S := by
  unfold seqS bd
  dsimp only
  cases a ρ S with
  | ok o S1 =>
    dsimp only
    cases o <;> rfl
  | err => rfl
  | stuck => rfl
theorem seqS_as3 (a b c d : Sm.Env → M Out) (ρ : Sm.Env) (S : Sto) : seqS a (seqS b (seqS c d)) ρ S = seqS (seqS a (seqS b c)) d ρ S := by
  rw [← seqS_as a (seqS b c) d]
  unfold seqS bd
  dsimp only
  cases a ρ S with
  | ok o S1 =>
    dsimp only
    cases o with
    | nx ρ1 => exact seqS_as b c d ρ1 S1
    | _ => rfl
  | err => rfl
  | stuck => rfl
theorem labels_ok : ∃ S', m__law_labels_right [] [] = .ok (.bl true) S' := by
  obtain ⟨z0, z1, z2, z3, z4, z5, hz⟩ : ∃ z0 z1 z2 z3 z4 z5, S0r = [z0, z1, z2, z3, z4, z5, .dct dbt0] := list7 S0_len S0_at
  have h0 := pre_ok
  rw [hz] at h0
  obtain ⟨S', hr⟩ := okO_of (lrR_ok z0 z1 z2 z3 z4 z5)
  refine ⟨S', ?_⟩
  have hb : b__law_labels_right [.no, .no, .no, .no, .no, .no] [] = .ok (.ret (.bl true)) S' := by
    rw [lr_eq]
    have e : seqS lr0 (seqS lr1 (seqS lr2 (seqS lr3 lrR))) [.no, .no, .no, .no, .no, .no] [] = seqS preS (seqS lr3 lrR) [.no, .no, .no, .no, .no, .no] [] := by
      unfold preS
      exact seqS_as3 ..
    rw [e, seqS_nx h0, seqS_nx (lr3_ok z0 z1 z2 z3 z4 z5)]
    exact hr
  exact fnM_ok rfl hb
end Pu

/-! text: K1 -/
set_option Elab.async false
set_option linter.all false
set_option maxRecDepth 100000
set_option maxHeartbeats 4000000
namespace Sm
open PySem PySem.Spec L2
theorem cut_scr2 (ds : List D) (k : Nat) (S : Sto) : sliceL (.scr ds) none (some (k : Int)) S = .ok (ds.take k) S := by
  show Res.ok (cutL ds none (some (k : Int))) S = _
  unfold cutL
  rw [HT.sIx_nat, HT.sIx_none, List.drop_zero, Nat.sub_zero]
  congr 1
  by_cases h : k ≤ ds.length
  · rw [Nat.min_eq_left h]
  · rw [Nat.min_eq_right (by omega), List.take_of_length_le (Nat.le_refl _), List.take_of_length_le (by omega)]
theorem intsL_mapD : ∀ l : List Int, intsL (l.map D.int) = some l
  | [] => rfl
  | i :: l => by
    show (intsL (l.map D.int)).map (i :: ·) = _
    rw [intsL_mapD l]
    rfl
end Sm
namespace Pu
open PySem PySem.Spec L2 Sm Wk
def st1 : Sm.Env → M Out := (setV 1 fun ρ => (o2 modI (c1 intD (consM (c1 absD (consM (c1 sumD (consM (bd (bd (vb ρ 0) fun x => bd (rt none) fun i => bd (bd (rt (.int 9)) asI) fun j => sliceL x i j) fun ds => rt (.lst ds)) (rt []))) (rt []))) (rt []))) (rt (.int 3))))
def rest : Sm.Env → M Out := (seqS (fun ρ => bd (boolT (o2 eqD (vb ρ 1) (rt (.int 0)))) fun t => iteM t ((fun ρ => bd (callM 0 m__law_edits_right []) fun d => rt (.ret d)) ρ) (nextS ρ)) (fun ρ => bd (bd (boolT (o2 eqD (vb ρ 1) (rt (.int 1)))) fun t => iteM t (callM 0 m__law_sure_right []) (callM 0 m__law_labels_right [])) fun d => rt (.ret d)))
theorem law_eq : b_law = seqS st1 rest := rfl
theorem rest0 (sc : List D) : okO (rest [.val (.scr sc), .val (.int 0)] []) = true := by kernel_rfl
theorem rest1 (sc : List D) : okO (rest [.val (.scr sc), .val (.int 1)] []) = true := by kernel_rfl
theorem call0 {m : List D → M D} {S S' : Sto} {d : D} (h : m [] S = .ok d S') : callM 0 m [] S = .ok d S' := h
theorem tail2 {x : M Bool} {a b : M D} {S S' : Sto} {d : D} (hx : x S = .ok false S) (h : b S = .ok d S') : bd (bd x fun t => iteM t a b) (fun d => rt (Out.ret d)) S = .ok (Out.ret d) S' := by
  have h1 : bd x (fun t => iteM t a b) S = .ok d S' := by
    rw [bd_ok hx]
    exact h
  rw [bd_ok h1]
  rfl
def rsA : Sm.Env → M Out := (fun ρ => bd (boolT (o2 eqD (vb ρ 1) (rt (.int 0)))) fun t => iteM t ((fun ρ => bd (callM 0 m__law_edits_right []) fun d => rt (.ret d)) ρ) (nextS ρ))
def rsB : Sm.Env → M Out := (fun ρ => bd (bd (boolT (o2 eqD (vb ρ 1) (rt (.int 1)))) fun t => iteM t (callM 0 m__law_sure_right []) (callM 0 m__law_labels_right [])) fun d => rt (.ret d))
theorem rs_eq : rest = seqS rsA rsB := rfl
theorem rsA2 (sc : List D) : rsA [.val (.scr sc), .val (.int 2)] [] = .ok (.nx [.val (.scr sc), .val (.int 2)]) [] := by kernel_rfl
theorem rsT2 (sc : List D) : (boolT (o2 eqD (vb [.val (.scr sc), .val (.int 2)] 1) (rt (.int 1)))) [] = .ok false [] := by kernel_rfl
theorem rsB2 (sc : List D) {S' : Sto} (h : callM 0 m__law_labels_right [] [] = .ok (.bl true) S') : rsB [.val (.scr sc), .val (.int 2)] [] = .ok (.ret (.bl true)) S' := tail2 (rsT2 sc) h
theorem rest2 (sc : List D) : ∃ S, rest [.val (.scr sc), .val (.int 2)] [] = .ok (.ret (.bl true)) S := by
  obtain ⟨S', h⟩ := labels_ok
  refine ⟨S', ?_⟩
  rw [rs_eq, seqS_nx (rsA2 sc)]
  exact rsB2 sc (call0 h)
theorem law_ok (ns : List Int) (hn : ns.length ≤ 63) : ∃ S', m_law [.scr (ns.map D.int)] [] = .ok (.bl true) S' := by
  have hc : sliceL (.scr (ns.map D.int)) none (some 9) ([] : Sto) = .ok ((ns.take 9).map D.int) [] := by
    have := cut_scr2 (ns.map D.int) 9 []
    rw [← List.map_take] at this
    exact this
  obtain ⟨f, hf⟩ : ∃ f, f = (ns.take 9).sum := ⟨_, rfl⟩
  have hs : ∀ S, sumD [.lst ((ns.take 9).map D.int)] S = some (.int f) := fun S => by
    unfold sumD
    dsimp only
    rw [intsL_mapD, hf]
    rfl
  obtain ⟨g, hg⟩ : ∃ g : Int, g = if f < 0 then -f else f := ⟨_, rfl⟩
  have m3 : ∀ S, modI (.int g) (.int 3) S = some (.int (g % 3)) := fun S => e_mod (by decide) S
  have ha : ∀ S, absD [.int f] S = some (.int g) := fun S => by rw [hg]; rfl
  have h1 : st1 [.val (.scr (ns.map D.int)), .no] [] = .ok (.nx [.val (.scr (ns.map D.int)), .val (.int (g % 3))]) [] := by
    unfold st1
    generalize (ns.take 9).map D.int = al at *
    generalize ns.map D.int = nl at *
    simp [hc, hs, ha, m3, Sm.intD]
  have key : ∃ S', rest [.val (.scr (ns.map D.int)), .val (.int (g % 3))] [] = .ok (.ret (.bl true)) S' := by
    have h3 : g % 3 = 0 ∨ g % 3 = 1 ∨ g % 3 = 2 := by omega
    rcases h3 with h | h | h <;> rw [h]
    · exact okO_of (rest0 _)
    · exact okO_of (rest1 _)
    · exact rest2 _
  obtain ⟨S', h3⟩ := key
  refine ⟨S', ?_⟩
  unfold m_law
  rw [law_eq]
  simp [h1, h3]
end Pu

set_option Elab.async false
theorem PySem.Challenge.cw_seeabove_k11_known_holds : PySem.Challenge.rw_seeabove_k11_known.Holds := by
  exact Hd.holds Pu.law_ok
