import PyProof.Rows.All
import Wide.All
import OpenK.AllK
import Wide.FinOn
import HandS.ForMost
import HandS.Walk
import HandS.IsInst
import HandS.Wide
import HandS.WideBits
import HandS.StrMore
import HandS.Style
import HandS.Flow
import HandS.Defaults
import HandS.ExcOwn
import HandS.TryOnly
import HandS.Zip
import KE.GoesMore
import KE.GoesEnum
import PyProof.EnumMake
import KE.GoesZip
import KE.GoesEnumKw
import HandS.SortKw
import PyProof.Rows.SetFrom
import HandS.TupAny
import HandS.Deep
import HandS.RaiseMore
import HandS.Text
import HandS.TupMul
import PyProof.Rows.IntBool
import HandS.SetKeys
import HandS.Small
import HandS.Dict
import HandS.Ends
import KE.KUnpackStar
import HandS.More
import HandS.TupLe
import HandS.ExcInit
import HandS.ExcField
import HandS.ExcIs
import KE.KExcIs
import PyProof.ExcBaseAll.LookupError
import PyProof.StrBlock2
import HandS.Strs
import HandS.DictComp
import KE.KDictZip
import KE.KDictItemsList
import PySem.Challenge.RW_tiedtables_k12_what_is_loose
set_option Elab.async false
set_option linter.all false
set_option maxRecDepth 100000
set_option maxHeartbeats 4000000
namespace M3
open PySem PySem.Spec L2
open PyProof.Rows hiding St

abbrev D := PyData
abbrev Own := Nat → Addr → Prop

theorem same_upd {H : Hp} {p : Addr} {o : HO} (h : H p = none) : Same H (upd H p o) := fun b x e => by
  rw [upd_ne (ne_of_none e h)]; exact e
theorem Same.tup {K : PySem.W.Frag} {H H' : Hp} {a : Addr} {xs : List V} (e : Same H H') (h : SqT K H a xs) : SqT K H' a xs := by
  rcases h with (h | ⟨o, h⟩) | h
  · exact .inl (.inl (e _ _ h))
  · exact .inl (.inr ⟨o, e _ _ h⟩)
  · exact .inr h

/-! ### frozen data -/
mutual
inductive Dq (K : PySem.W.Frag) (H : Hp) : V → D → Prop
  | non : Dq K H .non .none
  | bl (b : Bool) : Dq K H (.bl b) (.bool b)
  | int (i : Int) : Dq K H (.int i) (.int i)
  | str (x : Str) : Dq K H (.str x) (.str x)
  | lst {a : Addr} {vs : List V} {ds : List D} : H a = some (.lst vs) → DqAll K H vs ds → Dq K H (.ref a) (.list ds)
  | tup {a : Addr} {vs : List V} {ds : List D} : SqT K H a vs → DqAll K H vs ds → Dq K H (.ref a) (.tuple ds)
inductive DqAll (K : PySem.W.Frag) (H : Hp) : List V → List D → Prop
  | nil : DqAll K H [] []
  | cons {v : V} {vs : List V} {d : D} {ds : List D} : Dq K H v d → DqAll K H vs ds → DqAll K H (v :: vs) (d :: ds)
end
section
variable {K : PySem.W.Frag} {H H' : Hp}
mutual
theorem Dq.mono (s : Same H H') : ∀ {v : V} {d : D}, Dq K H v d → Dq K H' v d
  | _, _, .non => .non
  | _, _, .bl b => .bl b
  | _, _, .int i => .int i
  | _, _, .str x => .str x
  | _, _, .lst h a => .lst (s _ _ h) (DqAll.mono s a)
  | _, _, .tup h a => .tup (Same.tup s h) (DqAll.mono s a)
theorem DqAll.mono (s : Same H H') : ∀ {vs : List V} {ds : List D}, DqAll K H vs ds → DqAll K H' vs ds
  | _, _, .nil => .nil
  | _, _, .cons a b => .cons (Dq.mono s a) (DqAll.mono s b)
end
mutual
theorem Dq.dp : ∀ {v : V} {d : D}, Dq K H v d → Dp K H v d
  | _, _, .non => .non
  | _, _, .bl b => .bl b
  | _, _, .int i => .int i
  | _, _, .str x => .str x
  | _, _, .lst h a => .lst (SqL.of h) (DqAll.dp a)
  | _, _, .tup h a => .tup h (DqAll.dp a)
theorem DqAll.dp : ∀ {vs : List V} {ds : List D}, DqAll K H vs ds → DpAll K H vs ds
  | _, _, .nil => .nil
  | _, _, .cons a b => .cons (Dq.dp a) (DqAll.dp b)
end
theorem DqAll.length : ∀ {vs : List V} {ds : List D}, DqAll K H vs ds → vs.length = ds.length
  | _, _, .nil => rfl
  | _, _, .cons _ b => congrArg Nat.succ (DqAll.length b)
theorem DqAll.get : ∀ {vs : List V} {ds : List D} {i : Nat} {v : V}, DqAll K H vs ds → vs[i]? = some v → ∃ d, ds[i]? = some d ∧ Dq K H v d
  | _, _, _, _, .nil, e => by simp at e
  | _, _, 0, _, .cons a _, e => by simp at e; subst e; exact ⟨_, rfl, a⟩
  | _, _, i + 1, v, .cons _ b, e => by
    obtain ⟨d, h1, h2⟩ := DqAll.get (i := i) (v := v) b (by simpa using e)
    exact ⟨d, by simpa using h1, h2⟩
theorem DqAll.getD : ∀ {vs : List V} {ds : List D} {i : Nat} {d : D}, DqAll K H vs ds → ds[i]? = some d → ∃ v, vs[i]? = some v ∧ Dq K H v d
  | _, _, _, _, .nil, e => by simp at e
  | _, _, 0, _, .cons a _, e => by simp at e; subst e; exact ⟨_, rfl, a⟩
  | _, _, i + 1, v, .cons _ b, e => by
    obtain ⟨d, h1, h2⟩ := DqAll.getD (i := i) (d := v) b (by simpa using e)
    exact ⟨d, by simpa using h1, h2⟩
theorem DqAll.append : ∀ {vs ws : List V} {ds es : List D}, DqAll K H vs ds → DqAll K H ws es → DqAll K H (vs ++ ws) (ds ++ es)
  | _, _, _, _, .nil, h => h
  | _, _, _, _, .cons a b, h => .cons a (DqAll.append b h)
theorem DqAll.take : ∀ {vs : List V} {ds : List D} (n : Nat), DqAll K H vs ds → DqAll K H (vs.take n) (ds.take n)
  | _, _, 0, _ => by simp; exact .nil
  | _, _, _ + 1, .nil => by simp; exact .nil
  | _, _, n + 1, .cons a b => .cons a (DqAll.take n b)
theorem DqAll.drop : ∀ {vs : List V} {ds : List D} (n : Nat), DqAll K H vs ds → DqAll K H (vs.drop n) (ds.drop n)
  | _, _, 0, h => h
  | _, _, _ + 1, .nil => .nil
  | _, _, n + 1, .cons _ b => DqAll.drop n b
theorem DqAll.set {v : V} {d : D} (h : Dq K H v d) : ∀ {vs : List V} {ds : List D} (i : Nat), DqAll K H vs ds → DqAll K H (vs.set i v) (ds.set i d)
  | _, _, _, .nil => .nil
  | _, _, 0, .cons _ b => .cons h b
  | _, _, i + 1, .cons a b => .cons a (DqAll.set h i b)
theorem DqAll.reverse {vs : List V} {ds : List D} (h : DqAll K H vs ds) : DqAll K H vs.reverse ds.reverse := by
  induction vs generalizing ds with
  | nil => cases h; exact .nil
  | cons v vs ih =>
    cases h with
    | cons a b => rw [List.reverse_cons, List.reverse_cons]; exact (ih b).append (.cons a .nil)
end

/-! ### owned data, slots, environments -/
/-- an exception: its class by its name, its fields, the last one first -/
structure Xn where
  cls : Str
  fs : List (Str × D)
inductive OV where
  | lst (ds : List D)
  | st (cells : List Int) (turn : Int)
  /-- a dict of frozen data -/
  | dct (kvs : List (Key × D))
  /-- a list of lists that are owned too -/
  | nl (dss : List (List D))
  /-- an exception that was caught -/
  | exc (x : Xn)
inductive SV where
  | fro (d : D)
  | own (o : OV)
  | raw (v : V)
  | scr (ns : List Int)
abbrev En := List (Option SV)
inductive RV where
  | fro (d : D)
  | new (o : OV)
  | at_ (i : Nat)
  | raw (v : V)
inductive R (α : Type) where
  | ok (a : α) (ε : En)
  | err (x : Xn) (ε : En)
  | bad
abbrev M (α : Type) := En → R α
def R.bind {α β : Type} : R α → (α → En → R β) → R β
  | .ok a ε, f => f a ε
  | .err x ε, _ => .err x ε
  | .bad, _ => .bad

structure Ct where
  K : PySem.W.Frag
  own : List Nat
  vs : List V
  W : WX

inductive KvAll (K : PySem.W.Frag) (Hf : Hp) : List (Key × V) → List (Key × D) → Prop
  | nil : KvAll K Hf [] []
  | cons {k : Key} {v : V} {d : D} {vs : List (Key × V)} {ds : List (Key × D)} : Dq K Hf v d → KvAll K Hf vs ds → KvAll K Hf ((k, v) :: vs) ((k, d) :: ds)
theorem KvAll.mono {K : PySem.W.Frag} {Hf Hf' : Hp} (s : Same Hf Hf') : ∀ {vs : List (Key × V)} {ds : List (Key × D)}, KvAll K Hf vs ds → KvAll K Hf' vs ds
  | _, _, .nil => .nil
  | _, _, .cons a b => .cons (a.mono s) (b.mono s)
inductive NlR (K : PySem.W.Frag) (Hf H : Hp) : List Addr → List (List D) → Prop
  | nil : NlR K Hf H [] []
  | cons {q : Addr} {vs : List V} {ds : List D} {qs : List Addr} {dss : List (List D)} : H q = some (.lst vs) → DqAll K Hf vs ds → NlR K Hf H qs dss → NlR K Hf H (q :: qs) (ds :: dss)
theorem NlR.keep {K : PySem.W.Frag} {Hf Hf' H H' : Hp} (s : Same Hf Hf') : ∀ {qs : List Addr} {dss : List (List D)}, NlR K Hf H qs dss → (∀ a ∈ qs, H' a = H a) → NlR K Hf' H' qs dss
  | _, _, .nil, _ => .nil
  | _, _, .cons h a b, k => .cons (by rw [k _ List.mem_cons_self]; exact h) (a.mono s) (b.keep s fun x hx => k x (List.mem_cons_of_mem _ hx))
theorem NlR.there {K : PySem.W.Frag} {Hf H : Hp} : ∀ {qs : List Addr} {dss : List (List D)}, NlR K Hf H qs dss → ∀ a ∈ qs, H a ≠ none
  | _, _, .cons h _ b, a, z => by
    rcases List.mem_cons.mp z with rfl | z
    · rw [h]; simp
    · exact b.there a z

/-- at a: an exception that was caught, of the class cls, its dict d -/
def exh (a : Addr) (cls : Value) (d : Option Addr) : HO := .ext fun h => ∃ oe vs, h.get? a = some oe ∧ Zc cls d oe ∧ oe.data = .fields vs
/-- what an exception is: the class by its name in the module, the fields in the frozen part -/
def XnR (K : PySem.W.Frag) (Hf : Hp) (cls : Value) (d : Option Addr) (x : Xn) : Prop :=
  ∃ C : Addr, cls = .ref C ∧ PySem.W.nsIn K mainGlobals x.cls = some (some (.ref C)) ∧
    ((d = none ∧ x.fs = []) ∨ ∃ dd vs, d = some dd ∧ Hf dd = some (.xd vs) ∧ Paired (fun (p : Str × V) (q : Str × D) => p.1 = q.1 ∧ Dq K Hf p.2 q.2) vs x.fs)
theorem XnR.mono {K : PySem.W.Frag} {Hf Hf' : Hp} {cls : Value} {d : Option Addr} {x : Xn} (s : Same Hf Hf') (h : XnR K Hf cls d x) : XnR K Hf' cls d x := by
  obtain ⟨C, h1, h2, h3⟩ := h
  refine ⟨C, h1, h2, h3.imp id ?_⟩
  rintro ⟨dd, vs, e, q, p⟩
  exact ⟨dd, vs, e, s _ _ q, Paired.mapP p fun _ _ z => ⟨z.1, z.2.mono s⟩⟩

def OwnR (K : PySem.W.Frag) (Hf H : Hp) (p : Addr) (S : Addr → Prop) : OV → Prop
  | .lst ds => (∀ a, S a ↔ a = p) ∧ ∃ vs, H p = some (.lst vs) ∧ DqAll K Hf vs ds
  | .st cs t => ∃ q, q ≠ p ∧ (∀ a, S a ↔ (a = p ∨ a = q)) ∧ H p = some (.dK [(.inr "cells", .ref q), (.inr "turn", .int t)]) ∧ H q = some (.lst (cs.map .int))
  | .dct kvs => (∀ a, S a ↔ a = p) ∧ ∃ kvv, H p = some (.dK kvv) ∧ KvAll K Hf kvv kvs
  | .nl dss => ∃ qs, (p :: qs).Nodup ∧ (∀ a, S a ↔ a ∈ p :: qs) ∧ H p = some (.lst (qs.map V.ref)) ∧ NlR K Hf H qs dss
  | .exc x => (∀ a, ¬ S a) ∧ ∃ cls d, Hf p = some (exh p cls d) ∧ XnR K Hf cls d x

def SlotR (K : PySem.W.Frag) (Hf H : Hp) (S : Addr → Prop) (s : Option (Option V)) : Option (Option SV) → Prop
  | some (some (.fro d)) => (∀ a, ¬ S a) ∧ ∃ v, s = some (some v) ∧ Dq K Hf v d
  | some (some (.own o)) => ∃ p, s = some (some (.ref p)) ∧ OwnR K Hf H p S o
  | some (some (.raw v)) => (∀ a, ¬ S a) ∧ s = some (some v)
  | some (some (.scr ns)) => (∀ a, ¬ S a) ∧ ∃ p, s = some (some (.ref p)) ∧ SqL K Hf p (ns.map V.int)
  | _ => ∀ a, ¬ S a

structure EnR (C : Ct) (Hf H : Hp) (w : Own) (σ : St) (ε : En) : Prop where
  sub : Same Hf H
  slot : ∀ i, SlotR C.K Hf H (w i) σ[i]? ε[i]?
  sep : ∀ i j a, w i a → w j a → i = j
  fre : ∀ i a, w i a → Hf a = none
  len : σ.length = ε.length
  fix : ∀ i v, C.own.contains i = true → C.vs[i]? = some v → σ[i]? = some (some v)

def O (w : Own) : Addr → Prop := fun a => ∃ i, w i a

structure Stp (Hf H : Hp) (o : Addr → Prop) (Hf' H' : Hp) (o' : Addr → Prop) : Prop where
  mono : Same Hf Hf'
  rest : ∀ a, H a ≠ none → ¬ o a → H' a = H a ∧ Hf' a = Hf a ∧ ¬ o' a
theorem Stp.refl {Hf H : Hp} {o : Addr → Prop} : Stp Hf H o Hf H o := ⟨Same.refl _, fun _ _ h => ⟨rfl, rfl, h⟩⟩
theorem Stp.trans {Hf H Hf1 H1 Hf2 H2 : Hp} {o o1 o2 : Addr → Prop} (a : Stp Hf H o Hf1 H1 o1) (b : Stp Hf1 H1 o1 Hf2 H2 o2) : Stp Hf H o Hf2 H2 o2 where
  mono := a.mono.trans b.mono
  rest := fun x h n => by
    obtain ⟨e1, e2, n1⟩ := a.rest x h n
    obtain ⟨f1, f2, n2⟩ := b.rest x (by rw [e1]; exact h) n1
    exact ⟨f1.trans e1, f2.trans e2, n2⟩
theorem Stp.out {Hf H Hf' H' : Hp} {o o' o'' : Addr → Prop} (a : Stp Hf H o Hf' H' o') (h : ∀ x, o'' x → o' x) : Stp Hf H o Hf' H' o'' :=
  ⟨a.mono, fun x e n => let ⟨h1, h2, h3⟩ := a.rest x e n; ⟨h1, h2, fun z => h3 (h x z)⟩⟩
theorem Stp.into {Hf H Hf' H' : Hp} {o o' o'' : Addr → Prop} (a : Stp Hf H o Hf' H' o') (h : ∀ x, o x → o'' x) : Stp Hf H o'' Hf' H' o' :=
  ⟨a.mono, fun x e n => a.rest x e fun z => n (h x z)⟩

section
variable {K : PySem.W.Frag} {Hf H Hf' H' : Hp} {S : Addr → Prop} {p : Addr} {ov : OV}
/-- what is owned stands -/
theorem OwnR.there (h : OwnR K Hf H p S ov) : ∀ a, S a → H a ≠ none := by
  cases ov with
  | lst ds => obtain ⟨h1, vs, h2, _⟩ := h; intro a ha; rw [(h1 a).mp ha, h2]; simp
  | st cs t =>
    obtain ⟨q, _, h1, h2, h3⟩ := h
    intro a ha
    rcases (h1 a).mp ha with e | e
    · rw [e, h2]; simp
    · rw [e, h3]; simp
  | dct kvs => obtain ⟨h1, vs, h2, _⟩ := h; intro a ha; rw [(h1 a).mp ha, h2]; simp
  | nl dss =>
    obtain ⟨qs, _, h1, h2, h3⟩ := h
    intro a ha
    rcases List.mem_cons.mp ((h1 a).mp ha) with e | e
    · rw [e, h2]; simp
    · exact h3.there a e
  | exc x => exact fun a ha => absurd ha (h.1 a)
theorem OwnR.keep (h : OwnR K Hf H p S ov) (s : Same Hf Hf') (k : ∀ a, S a → H' a = H a) : OwnR K Hf' H' p S ov := by
  cases ov with
  | lst ds =>
    obtain ⟨h1, vs, h2, h3⟩ := h
    exact ⟨h1, vs, by rw [k p ((h1 p).mpr rfl)]; exact h2, h3.mono s⟩
  | st cs t =>
    obtain ⟨q, h0, h1, h2, h3⟩ := h
    exact ⟨q, h0, h1, by rw [k p ((h1 p).mpr (.inl rfl))]; exact h2, by rw [k q ((h1 q).mpr (.inr rfl))]; exact h3⟩
  | dct kvs =>
    obtain ⟨h1, vs, h2, h3⟩ := h
    exact ⟨h1, vs, by rw [k p ((h1 p).mpr rfl)]; exact h2, h3.mono s⟩
  | nl dss =>
    obtain ⟨qs, h0, h1, h2, h3⟩ := h
    exact ⟨qs, h0, h1, by rw [k p ((h1 p).mpr List.mem_cons_self)]; exact h2, h3.keep s fun a ha => k a ((h1 a).mpr (List.mem_cons_of_mem _ ha))⟩
  | exc x =>
    obtain ⟨h1, cls, d, h2, h3⟩ := h
    exact ⟨h1, cls, d, s _ _ h2, h3.mono s⟩
theorem SlotR.keep {s : Option (Option V)} {e : Option (Option SV)} (h : SlotR K Hf H S s e) (sm : Same Hf Hf') (k : ∀ a, S a → H' a = H a) : SlotR K Hf' H' S s e := by
  match e, h with
  | some (some (.fro d)), ⟨h0, v, h1, h2⟩ => exact ⟨h0, v, h1, h2.mono sm⟩
  | some (some (.own o)), ⟨p, h1, h2⟩ => exact ⟨p, h1, h2.keep sm k⟩
  | some (some (.raw v)), h => exact h
  | some (some (.scr ns)), ⟨h0, p, h1, h2⟩ => exact ⟨h0, p, h1, sm.seq h2⟩
  | some none, h => exact h
  | none, h => exact h
theorem SlotR.there {s : Option (Option V)} {e : Option (Option SV)} (h : SlotR K Hf H S s e) : ∀ a, S a → H a ≠ none := by
  match e, h with
  | some (some (.fro d)), ⟨h0, _⟩ => exact fun a z => absurd z (h0 a)
  | some (some (.own o)), ⟨p, h1, h2⟩ => exact h2.there
  | some (some (.raw v)), ⟨h0, _⟩ => exact fun a z => absurd z (h0 a)
  | some (some (.scr ns)), ⟨h0, _⟩ => exact fun a z => absurd z (h0 a)
  | some none, h => exact fun a z => absurd z (h a)
  | none, h => exact fun a z => absurd z (h a)
end

/-! ### what results are -/
abbrev Rl (α β : Type) := Ct → Hp → Hp → Own → St → (Addr → Prop) → β → α → Prop
def relRV : Rl RV V := fun C Hf H w σ S v r => match r with
  | .fro d => (∀ a, ¬ S a) ∧ Dq C.K Hf v d
  | .new o => ∃ p, v = .ref p ∧ OwnR C.K Hf H p S o ∧ (∀ a, S a → Hf a = none) ∧ ∀ i a, w i a → ¬ S a
  | .at_ i => (∀ a, ¬ S a) ∧ σ[i]? = some (some v)
  | .raw u => (∀ a, ¬ S a) ∧ v = u
/-- operands: nothing is owned by the value -/
def opR (C : Ct) (Hf : Hp) (σ : St) (v : V) : RV → Prop
  | .fro d => Dq C.K Hf v d
  | .new _ => False
  | .at_ i => σ[i]? = some (some v)
  | .raw u => v = u
def relO : Rl RV V := fun C Hf H w σ S v r => (∀ a, ¬ S a) ∧ opR C Hf σ v r
inductive opRs (C : Ct) (Hf : Hp) (σ : St) : List V → List RV → Prop
  | nil : opRs C Hf σ [] []
  | cons {v : V} {vs : List V} {r : RV} {rs : List RV} : opR C Hf σ v r → opRs C Hf σ vs rs → opRs C Hf σ (v :: vs) (r :: rs)
def relOs : Rl (List RV) (List V) := fun C Hf H w σ S vs rs => (∀ a, ¬ S a) ∧ opRs C Hf σ vs rs
def relB : Rl Bool Bool := fun C Hf H w σ S b c => (∀ a, ¬ S a) ∧ b = c
theorem opR.mono {C : Ct} {Hf Hf' : Hp} {σ : St} {v : V} {r : RV} (s : Same Hf Hf') (h : opR C Hf σ v r) : opR C Hf' σ v r := by
  cases r with
  | fro d => exact Dq.mono s h
  | new o => exact h
  | at_ i => exact h
  | raw u => exact h
theorem opRs.mono {C : Ct} {Hf Hf' : Hp} {σ : St} (s : Same Hf Hf') : ∀ {vs : List V} {rs : List RV}, opRs C Hf σ vs rs → opRs C Hf' σ vs rs
  | _, _, .nil => .nil
  | _, _, .cons a b => .cons (a.mono s) (opRs.mono s b)

def PostX {α β : Type} (C : Ct) (Rel : Rl α β) (Hf H : Hp) (w : Own) (σ : St) (Q : β → Hp → Prop) : R α → Prop
  | .ok a ε' => ∀ Hf' H' w' S b, EnR C Hf' H' w' σ ε' → Stp Hf H (O w) Hf' H' (fun x => O w' x ∨ S x) → Rel C Hf' H' w' σ S b a → Q b H'
  | .err x ε' => ∀ Hf' H' w' cls d, EnR C Hf' H' w' σ ε' → Stp Hf H (O w) Hf' H' (O w') → XnR C.K Hf' cls d x → C.W cls d σ H'
  | .bad => False
abbrev TX (β : Type) := St → Hp → (β → Hp → Prop) → Prop
def Snd {α β : Type} (C : Ct) (Rel : Rl α β) (t : TX β) (m : M α) : Prop :=
  ∀ Hf H w σ ε Q, EnR C Hf H w σ ε → PostX C Rel Hf H w σ Q (m ε) → t σ H Q

theorem PostX.step {α β : Type} {C : Ct} {Rel : Rl α β} {Hf H Hf1 H1 : Hp} {w w1 : Own} {σ : St} {Q : β → Hp → Prop} {r : R α} (s : Stp Hf H (O w) Hf1 H1 (O w1)) (h : PostX C Rel Hf H w σ Q r) : PostX C Rel Hf1 H1 w1 σ Q r := by
  cases r with
  | ok a ε' => exact fun Hf' H' w' S b E st r => h Hf' H' w' S b E (s.trans st) r
  | err x ε' => exact fun Hf' H' w' cls d E st r => h Hf' H' w' cls d E (s.trans st) r
  | bad => exact h

/-- end a value here: nothing changed -/
theorem PostX.here {α β : Type} {C : Ct} {Rel : Rl α β} {Hf H : Hp} {w : Own} {σ : St} {ε : En} {Q : β → Hp → Prop} {a : α} {b : β} (E : EnR C Hf H w σ ε) (h : PostX C Rel Hf H w σ Q (.ok a ε)) (r : Rel C Hf H w σ (fun _ => False) b a) : Q b H :=
  h Hf H w (fun _ => False) b E (Stp.refl.out fun x z => z.elim id False.elim) r

theorem Stp.noS {Hf H Hf' H' : Hp} {o : Addr → Prop} {w' : Own} {S : Addr → Prop} (s : Stp Hf H o Hf' H' (fun x => O w' x ∨ S x)) : Stp Hf H o Hf' H' (O w') := s.out fun _ z => .inl z

/-- one thing behind another, the first one owning nothing -/
theorem Snd.bind {α1 β1 α2 β2 : Type} {C : Ct} {Rel1 : Rl α1 β1} {Rel2 : Rl α2 β2} {t1 : TX β1} {m1 : M α1} {t2 : β1 → TX β2} {m2 : α1 → M α2} (h1 : Snd C Rel1 t1 m1)
    (h2 : ∀ Hf H w σ ε S b a Q, EnR C Hf H w σ ε → Rel1 C Hf H w σ S b a → PostX C Rel2 Hf H w σ Q (m2 a ε) → t2 b σ H Q) : Snd C Rel2 (fun σ H Q => t1 σ H fun b H1 => t2 b σ H1 Q) (fun ε => (m1 ε).bind m2) := by
  intro Hf H w σ ε Q E P
  refine h1 Hf H w σ ε _ E ?_
  cases e : m1 ε with
  | ok a ε1 =>
    have P' : PostX C Rel2 Hf H w σ Q (m2 a ε1) := by have q := P; simp only [e, R.bind] at q; exact q
    intro Hf1 H1 w1 S b E1 st r
    exact h2 Hf1 H1 w1 σ ε1 S b a Q E1 r (P'.step st.noS)
  | err x ε1 =>
    have P' : PostX C Rel2 Hf H w σ Q (.err x ε1) := by have q := P; simp only [e, R.bind] at q; exact q
    exact P'
  | bad =>
    have q := P
    simp only [e, R.bind] at q
    exact q
end M3

namespace M3
open PySem PySem.Spec L2
open PyProof.Rows hiding St

/-! ### a slot set anew -/
def wSet (w : Own) (i : Nat) (S : Addr → Prop) : Own := fun j a => (j = i ∧ S a) ∨ (j ≠ i ∧ w j a)
theorem wSet_self {w : Own} {i : Nat} {S : Addr → Prop} {a : Addr} : wSet w i S i a ↔ S a := by
  unfold wSet; constructor
  · rintro (⟨_, h⟩ | ⟨h, _⟩)
    · exact h
    · exact absurd rfl h
  · exact fun h => .inl ⟨rfl, h⟩
theorem wSet_ne {w : Own} {i j : Nat} {S : Addr → Prop} {a : Addr} (h : j ≠ i) : wSet w i S j a ↔ w j a := by
  unfold wSet; constructor
  · rintro (⟨z, _⟩ | ⟨_, q⟩)
    · exact absurd z h
    · exact q
  · exact fun q => .inr ⟨h, q⟩
theorem SlotR.congr {K : PySem.W.Frag} {Hf H : Hp} {S S' : Addr → Prop} {s : Option (Option V)} {e : Option (Option SV)} (h : ∀ a, S' a ↔ S a) (r : SlotR K Hf H S s e) : SlotR K Hf H S' s e := by
  have q : S' = S := by funext a; exact propext (h a)
  rw [q]; exact r

section
variable {C : Ct} {Hf H Hf' H' : Hp} {w : Own} {σ : L2.St} {ε : En} {S : Addr → Prop}
theorem EnR.there (E : EnR C Hf H w σ ε) {i : Nat} {a : Addr} (h : w i a) : H a ≠ none := (E.slot i).there a h
theorem EnR.put (E : EnR C Hf H w σ ε) {i : Nat} (hi : i < σ.length) (sm : Same Hf Hf') (sb : Same Hf' H') (kp : ∀ j a, j ≠ i → w j a → H' a = H a) (s' : Option V) (e' : Option SV) (hS : SlotR C.K Hf' H' S (some s') (some e'))
    (dis : ∀ j a, j ≠ i → w j a → ¬ S a) (fr : ∀ j a, j ≠ i → w j a → Hf' a = none) (frS : ∀ a, S a → Hf' a = none) (hf : C.own.contains i = true → ∀ v, C.vs[i]? = some v → s' = some v) :
    EnR C Hf' H' (wSet w i S) (σ.set i s') (ε.set i e') where
  sub := sb
  slot := fun j => by
    by_cases hj : j = i
    · subst hj
      rw [List.getElem?_set_self hi, List.getElem?_set_self (by rw [← E.len]; exact hi)]
      exact hS.congr fun a => wSet_self
    · rw [List.getElem?_set_ne (Ne.symm hj), List.getElem?_set_ne (Ne.symm hj)]
      exact ((E.slot j).keep sm fun a z => kp j a hj z).congr fun a => wSet_ne hj
  sep := fun j k a h1 h2 => by
    rcases h1 with ⟨rfl, h1⟩ | ⟨n1, h1⟩ <;> rcases h2 with ⟨e2, h2⟩ | ⟨n2, h2⟩
    · exact e2.symm
    · exact absurd h1 (dis k a n2 h2)
    · exact absurd h2 (dis j a n1 h1)
    · exact E.sep j k a h1 h2
  fre := fun j a h => by
    rcases h with ⟨_, h⟩ | ⟨n, h⟩
    · exact frS a h
    · exact fr j a n h
  len := by rw [List.length_set, List.length_set]; exact E.len
  fix := fun j v h1 h2 => by
    by_cases hj : j = i
    · subst hj
      rw [List.getElem?_set_self hi, hf h1 v h2]
    · rw [List.getElem?_set_ne (Ne.symm hj)]; exact E.fix j v h1 h2
theorem set_same {α : Type} {l : List α} {i : Nat} {x : α} (h : l[i]? = some x) : l.set i x = l := by
  apply List.ext_getElem?
  intro j
  by_cases hj : j = i
  · subst hj
    have hi : j < l.length := by
      obtain ⟨h1, _⟩ := List.getElem?_eq_some_iff.mp h
      exact h1
    rw [List.getElem?_set_self hi, h]
  · rw [List.getElem?_set_ne (Ne.symm hj)]
theorem lt_of_get {α : Type} {l : List α} {i : Nat} {x : α} (h : l[i]? = some x) : i < l.length := (List.getElem?_eq_some_iff.mp h).1
/-- an owned list in slot i -/
theorem EnR.ownLst (E : EnR C Hf H w σ ε) {i : Nat} {ds : List D} (e : ε[i]? = some (some (.own (.lst ds)))) :
    ∃ p vs, σ[i]? = some (some (.ref p)) ∧ H p = some (.lst vs) ∧ DqAll C.K Hf vs ds ∧ Hf p = none ∧ (∀ a, w i a ↔ a = p) := by
  have q := E.slot i
  rw [e] at q
  obtain ⟨p, h1, h2, vs, h3, h4⟩ := q
  exact ⟨p, vs, h1, h3, h4, E.fre i p ((h2 p).mpr rfl), h2⟩
/-- it is frozen -/
theorem EnR.freeze (E : EnR C Hf H w σ ε) {i : Nat} {ds : List D} (e : ε[i]? = some (some (.own (.lst ds)))) :
    ∃ p Hf' w', σ[i]? = some (some (.ref p)) ∧ Dq C.K Hf' (.ref p) (.list ds) ∧ EnR C Hf' H w' σ (ε.set i (some (.fro (.list ds)))) ∧ Stp Hf H (O w) Hf' H (O w') ∧ ∀ j a, w' j a → w j a := by
  obtain ⟨p, vs, h1, h2, h3, h4, h5⟩ := E.ownLst e
  have sm : Same Hf (upd Hf p (.lst vs)) := same_upd h4
  have sb : Same (upd Hf p (.lst vs)) H := fun b o q => by
    by_cases hb : b = p
    · subst hb; rw [upd_same] at q; cases q; exact h2
    · rw [upd_ne hb] at q; exact E.sub b o q
  have dq : Dq C.K (upd Hf p (.lst vs)) (.ref p) (.list ds) := .lst upd_same (h3.mono sm)
  refine ⟨p, upd Hf p (.lst vs), wSet w i fun _ => False, h1, dq, ?_, ⟨sm, fun a ha na => ⟨rfl, ?_, ?_⟩⟩, ?_⟩
  · have q := E.put (S := fun _ => False) (lt_of_get h1) sm sb (fun _ _ _ _ => rfl) (some (.ref p)) (some (.fro (.list ds))) ⟨fun _ z => z, _, rfl, dq⟩ (fun _ _ _ _ z => z)
      (fun j a hj hw => by
        have : a ≠ p := fun z => hj (E.sep j i a hw ((h5 a).mpr z))
        rw [upd_ne this]; exact E.fre j a hw) (fun _ z => z.elim)
      (fun hc v hv => by
        have := E.fix i v hc hv
        rw [h1] at this
        exact Option.some.inj this)
    rw [set_same h1] at q
    exact q
  · have : a ≠ p := fun z => na ⟨i, (h5 a).mpr z⟩
    rw [upd_ne this]
  · rintro ⟨j, ⟨_, z⟩ | ⟨n, z⟩⟩
    · exact z
    · exact na ⟨j, z⟩
  · rintro j a (⟨_, z⟩ | ⟨n, z⟩)
    · exact z.elim
    · exact z
/-- a new owned list that nobody holds is frozen -/
theorem EnR.freezeNew (E : EnR C Hf H w σ ε) {p : Addr} {ds : List D} (o : OwnR C.K Hf H p S (.lst ds)) (f : ∀ a, S a → Hf a = none) (d : ∀ i a, w i a → ¬ S a) :
    ∃ Hf', Dq C.K Hf' (.ref p) (.list ds) ∧ EnR C Hf' H w σ ε ∧ ∀ {Hf0 H0 : Hp} {o0 : Addr → Prop}, Stp Hf0 H0 o0 Hf H (fun x => O w x ∨ S x) → Stp Hf0 H0 o0 Hf' H (O w) := by
  obtain ⟨h1, vs, h2, h3⟩ := o
  have h4 : Hf p = none := f p ((h1 p).mpr rfl)
  have sm : Same Hf (upd Hf p (.lst vs)) := same_upd h4
  have nw : ∀ i a, w i a → a ≠ p := fun i a hw z => d i a hw ((h1 a).mpr z)
  refine ⟨upd Hf p (.lst vs), .lst upd_same (h3.mono sm), ⟨fun b o q => ?_, fun i => (E.slot i).keep sm fun _ _ => rfl, E.sep, fun i a hw => by rw [upd_ne (nw i a hw)]; exact E.fre i a hw, E.len, E.fix⟩, ?_⟩
  · by_cases hb : b = p
    · subst hb; rw [upd_same] at q; cases q; exact h2
    · rw [upd_ne hb] at q; exact E.sub b o q
  · intro Hf0 H0 o0 st
    refine ⟨st.mono.trans sm, fun a ha na => ?_⟩
    obtain ⟨e1, e2, n⟩ := st.rest a ha na
    have : a ≠ p := fun z => n (.inr ((h1 a).mpr z))
    exact ⟨e1, by rw [upd_ne this]; exact e2, fun z => n (.inl z)⟩
/-- a new object laid, frozen at once -/
theorem EnR.lay (E : EnR C Hf H w σ ε) {p : Addr} {o : HO} (hp : H p = none) : EnR C (upd Hf p o) (upd H p o) w σ ε := by
  have hfp : Hf p = none := by
    cases q : Hf p with
    | none => rfl
    | some u => have := E.sub p u q; rw [hp] at this; cases this
  have nw : ∀ i a, w i a → a ≠ p := fun i a hw z => by have := E.there hw; rw [z, hp] at this; exact this rfl
  refine ⟨fun b u q => ?_, fun i => (E.slot i).keep (same_upd hfp) fun a hw => upd_ne (nw i a hw), E.sep, fun i a hw => by rw [upd_ne (nw i a hw)]; exact E.fre i a hw, E.len, E.fix⟩
  by_cases hb : b = p
  · subst hb; rw [upd_same] at q ⊢; exact q
  · rw [upd_ne hb] at q ⊢; exact E.sub b u q
theorem same_none (E : Same Hf H) {p : Addr} (hp : H p = none) : Hf p = none := by
  cases q : Hf p with
  | none => rfl
  | some u => have := E p u q; rw [hp] at this; cases this
theorem Stp.lay {o : Addr → Prop} {p : Addr} {u : HO} (sub : Same Hf H) (hp : H p = none) : Stp Hf H o (upd Hf p u) (upd H p u) o := by
  refine ⟨same_upd (same_none sub hp), fun a ha na => ?_⟩
  have : a ≠ p := fun z => ha (by rw [z]; exact hp)
  exact ⟨upd_ne this, upd_ne this, na⟩
/-- a new object laid, not frozen -/
theorem EnR.layNew (E : EnR C Hf H w σ ε) {p : Addr} {o : HO} (hp : H p = none) : EnR C Hf (upd H p o) w σ ε := by
  have nw : ∀ i a, w i a → a ≠ p := fun i a hw z => by have := E.there hw; rw [z, hp] at this; exact this rfl
  refine ⟨fun b u q => ?_, fun i => (E.slot i).keep (Same.refl _) fun a hw => upd_ne (nw i a hw), E.sep, E.fre, E.len, E.fix⟩
  have e := E.sub b u q
  have : b ≠ p := fun z => by rw [z, hp] at e; cases e
  rw [upd_ne this]; exact e
theorem EnR.nw (E : EnR C Hf H w σ ε) {p : Addr} (hp : H p = none) : ∀ i a, w i a → a ≠ p := fun i a hw z => by have := E.there hw; rw [z, hp] at this; exact this rfl
theorem Stp.layNew {w : Own} {p : Addr} {u : HO} (hp : H p = none) : Stp Hf H (O w) Hf (upd H p u) (fun x => O w x ∨ x = p) := by
  refine ⟨Same.refl _, fun a ha na => ?_⟩
  have : a ≠ p := fun z => ha (by rw [z]; exact hp)
  exact ⟨upd_ne this, rfl, fun z => z.elim na this⟩
end

def relD : Rl D V := fun C Hf H w σ S v d => (∀ a, ¬ S a) ∧ Dq C.K Hf v d

/-! ### values as operands, as frozen data -/
def mUnnew (r : RV) : M RV := fun ε => match r with
  | .new (.lst ds) => .ok (.fro (.list ds)) ε
  | .new _ => .bad
  | r => .ok r ε
def mFrz (r : RV) : M D := fun ε => match r with
  | .fro d => .ok d ε
  | .at_ i => match ε[i]? with
    | some (some (.own (.lst ds))) => .ok (.list ds) (ε.set i (some (.fro (.list ds))))
    | some (some (.fro d)) => .ok d ε
    | _ => .bad
  | _ => .bad
def oE (m : M RV) : M RV := fun ε => (m ε).bind mUnnew
def fE (m : M RV) : M D := fun ε => (m ε).bind mFrz
section
variable {C : Ct} {t : TE} {m : M RV}
theorem Snd.op (h : Snd C relRV t m) : Snd C relO t (oE m) := by
  intro Hf H w σ ε Q E P
  refine h Hf H w σ ε Q E ?_
  have P' : PostX C relO Hf H w σ Q ((m ε).bind mUnnew) := P
  cases e : m ε with
  | err x ε1 => rw [e] at P'; exact P'
  | bad => rw [e] at P'; exact P'
  | ok a ε1 =>
    rw [e] at P'
    intro Hf1 H1 w1 S b E1 st r
    cases a with
    | fro d => exact P' Hf1 H1 w1 (fun _ => False) b E1 (st.out fun x z => z.elim .inl False.elim) ⟨fun _ z => z, r.2⟩
    | at_ i => exact P' Hf1 H1 w1 (fun _ => False) b E1 (st.out fun x z => z.elim .inl False.elim) ⟨fun _ z => z, r.2⟩
    | raw u => exact P' Hf1 H1 w1 (fun _ => False) b E1 (st.out fun x z => z.elim .inl False.elim) ⟨fun _ z => z, r.2⟩
    | new o =>
      cases o with
      | lst ds =>
        obtain ⟨p, rfl, r1, r2, r3⟩ := r
        obtain ⟨Hf2, dq, E2, st2⟩ := E1.freezeNew r1 r2 r3
        exact P' Hf2 H1 w1 (fun _ => False) (.ref p) E2 ((st2 st).out fun x z => z.elim id False.elim) ⟨fun _ z => z, dq⟩
      | _ => exact False.elim P'
theorem Snd.frz (h : Snd C relO t m) : Snd C relD t (fE m) := by
  intro Hf H w σ ε Q E P
  refine h Hf H w σ ε Q E ?_
  have P' : PostX C relD Hf H w σ Q ((m ε).bind mFrz) := P
  cases e : m ε with
  | err x ε1 => rw [e] at P'; exact P'
  | bad => rw [e] at P'; exact P'
  | ok a ε1 =>
    rw [e] at P'
    intro Hf1 H1 w1 S b E1 st r
    cases a with
    | fro d => exact P' Hf1 H1 w1 (fun _ => False) b E1 (st.out fun x z => z.elim .inl False.elim) ⟨fun _ z => z, r.2⟩
    | new o => exact r.2.elim
    | raw u => exact False.elim P'
    | at_ i =>
      have P2 : PostX C relD Hf H w σ Q (mFrz (.at_ i) ε1) := P'
      unfold mFrz at P2
      dsimp only at P2
      obtain ⟨r0, r1⟩ := r
      split at P2
      · rename_i ds e1
        obtain ⟨p, Hf2, w2, s1, dq, E2, st2, _⟩ := E1.freeze e1
        rw [r1] at s1
        cases s1
        exact P2 Hf2 H1 w2 (fun _ => False) (.ref p) E2 ((st.noS.trans st2).out fun x z => z.elim id False.elim) ⟨fun _ z => z, dq⟩
      · rename_i d e1
        have q := E1.slot i
        rw [e1] at q
        obtain ⟨q0, v, q1, q2⟩ := q
        rw [r1] at q1
        cases q1
        exact P2 Hf1 H1 w1 (fun _ => False) b E1 (st.out fun x z => z.elim .inl False.elim) ⟨fun _ z => z, q2⟩
      · exact False.elim P2
end
/-! ### names, constants -/
def mVar (i : Nat) : M RV := fun ε => match ε[i]? with
  | some (some (.fro d)) => .ok (.fro d) ε
  | some (some (.own _)) => .ok (.at_ i) ε
  | some (some (.raw v)) => .ok (.raw v) ε
  | some (some (.scr _)) => .ok (.at_ i) ε
  | _ => .bad
def mC (d : D) : M RV := fun ε => .ok (.fro d) ε
section
variable {C : Ct}
theorem snd_var (i : Nat) : Snd C relRV (tVar i) (mVar i) := by
  intro Hf H w σ ε Q E P
  have q := E.slot i
  unfold mVar at P
  split at P
  · rename_i d e
    rw [e] at q
    obtain ⟨q0, v, q1, q2⟩ := q
    exact ⟨v, q1, P.here E ⟨fun _ z => z, q2⟩⟩
  · rename_i o e
    rw [e] at q
    obtain ⟨p, q1, _⟩ := q
    exact ⟨_, q1, P.here E ⟨fun _ z => z, q1⟩⟩
  · rename_i v e
    rw [e] at q
    obtain ⟨q0, q1⟩ := q
    exact ⟨v, q1, P.here E ⟨fun _ z => z, rfl⟩⟩
  · rename_i ns e
    rw [e] at q
    obtain ⟨q0, p, q1, _⟩ := q
    exact ⟨_, q1, P.here E ⟨fun _ z => z, q1⟩⟩
  · exact False.elim P
theorem snd_int (i : Int) : Snd C relRV (tC (.int i)) (mC (.int i)) := fun _ _ _ _ _ _ E P => P.here E ⟨fun _ z => z, .int i⟩
theorem snd_bl (b : Bool) : Snd C relRV (tC (.bl b)) (mC (.bool b)) := fun _ _ _ _ _ _ E P => P.here E ⟨fun _ z => z, .bl b⟩
theorem snd_str (x : Str) : Snd C relRV (tC (.str x)) (mC (.str x)) := fun _ _ _ _ _ _ E P => P.here E ⟨fun _ z => z, .str x⟩
theorem snd_non : Snd C relRV (tC .non) (mC .none) := fun _ _ _ _ _ _ E P => P.here E ⟨fun _ z => z, .non⟩
end

/-! ### looking at operands -/
/-- what an operand shows now -/
def view (ε : En) : RV → Option D
  | .fro d => some d
  | .at_ i => match ε[i]? with
    | some (some (.own (.lst ds))) => some (.list ds)
    | some (some (.fro d)) => some d
    | _ => none
  | _ => none
/-- a value's top by the whole heap, its parts frozen -/
def Vw (C : Ct) (Hf H : Hp) (v : V) : D → Prop
  | .list ds => ∃ p vs, v = .ref p ∧ H p = some (.lst vs) ∧ DqAll C.K Hf vs ds
  | d => Dq C.K Hf v d
inductive VwAll (C : Ct) (Hf H : Hp) : List V → List D → Prop
  | nil : VwAll C Hf H [] []
  | cons {v : V} {vs : List V} {d : D} {ds : List D} : Vw C Hf H v d → VwAll C Hf H vs ds → VwAll C Hf H (v :: vs) (d :: ds)
theorem Vw.of {C : Ct} {Hf H : Hp} {v : V} {d : D} (s : Same Hf H) (h : Dq C.K Hf v d) : Vw C Hf H v d := by
  cases d with
  | list ds =>
    cases h with
    | lst h1 h2 => exact ⟨_, _, rfl, s _ _ h1, h2⟩
  | _ => exact h
theorem Vw.dq {C : Ct} {Hf H : Hp} {v : V} {d : D} (s : Same Hf H) (h : Vw C Hf H v d) : Dq C.K H v d := by
  cases d with
  | list ds =>
    obtain ⟨p, vs, rfl, h1, h2⟩ := h
    exact .lst h1 (h2.mono s)
  | _ => exact Dq.mono s h
theorem opR.view {C : Ct} {Hf H : Hp} {w : Own} {σ : L2.St} {ε : En} {v : V} {r : RV} {d : D} (E : EnR C Hf H w σ ε) (h : opR C Hf σ v r) (e : view ε r = some d) : Vw C Hf H v d := by
  cases r with
  | fro d' => cases e; exact Vw.of E.sub h
  | new o => exact h.elim
  | raw u => cases e
  | at_ i =>
    have h' : σ[i]? = some (some v) := h
    unfold M3.view at e
    dsimp only at e
    split at e
    · rename_i ds e1
      cases e
      obtain ⟨p, vs, s1, s2, s3, _⟩ := E.ownLst e1
      rw [h'] at s1
      cases s1
      exact ⟨p, vs, rfl, s2, s3⟩
    · rename_i d' e1
      cases e
      have q := E.slot i
      rw [e1] at q
      obtain ⟨q0, u, q1, q2⟩ := q
      rw [h'] at q1
      cases q1
      exact Vw.of E.sub q2
    · cases e
def viewAll (ε : En) : List RV → Option (List D)
  | [] => some []
  | r :: rs => match view ε r, viewAll ε rs with
    | some d, some ds => some (d :: ds)
    | _, _ => none
theorem opRs.view {C : Ct} {Hf H : Hp} {w : Own} {σ : L2.St} {ε : En} (E : EnR C Hf H w σ ε) : ∀ {vs : List V} {rs : List RV} {ds : List D}, opRs C Hf σ vs rs → viewAll ε rs = some ds → VwAll C Hf H vs ds
  | _, _, _, .nil, e => by cases e; exact .nil
  | _, _, _, .cons a b, e => by
    unfold viewAll at e
    split at e
    · rename_i d ds e1 e2
      cases e
      exact .cons (a.view E e1) (opRs.view E b e2)
    · cases e

/-! ### what built-in operations give -/
inductive Out where
  | val (d : D)
  | newl (ds : List D)
  | newt (ds : List D)
  | newd (kvs : List (Key × D))
  | raw (v : V)
def OutP (C : Ct) (Hf H : Hp) (Q : VK) : Option Out → Prop
  | some (.val d) => ∀ v, Dq C.K Hf v d → Q v H
  | some (.newl ds) => ∀ p vs, H p = none → DqAll C.K Hf vs ds → Q (.ref p) (upd H p (.lst vs))
  | some (.newt ds) => ∀ p vs, H p = none → DqAll C.K Hf vs ds → Q (.ref p) (upd H p (.tup vs))
  | some (.newd kvs) => ∀ p vs, H p = none → KvAll C.K Hf vs kvs → Q (.ref p) (upd H p (.dK vs))
  | some (.raw v) => Q v H
  | none => False
def outR (o : Option Out) : M RV := fun ε => match o with
  | some (.val d) => .ok (.fro d) ε
  | some (.newl ds) => .ok (.new (.lst ds)) ε
  | some (.newt ds) => .ok (.fro (.tuple ds)) ε
  | some (.newd kvs) => .ok (.new (.dct kvs)) ε
  | some (.raw v) => .ok (.raw v) ε
  | none => .bad
theorem OutP.of {C : Ct} {Hf H : Hp} {w : Own} {σ : L2.St} {ε : En} {Q : VK} {o : Option Out} (E : EnR C Hf H w σ ε) (P : PostX C relRV Hf H w σ Q (outR o ε)) : OutP C Hf H Q o := by
  match o with
  | none => exact P
  | some (.val d) => exact fun v h => P.here E ⟨fun _ z => z, h⟩
  | some (.raw v) => exact P.here E ⟨fun _ z => z, rfl⟩
  | some (.newt ds) =>
    intro p vs hp h
    have P' : PostX C relRV Hf H w σ Q (.ok (.fro (.tuple ds)) ε) := P
    exact P' (upd Hf p (.tup vs)) (upd H p (.tup vs)) w (fun _ => False) (.ref p) (E.lay hp) ((Stp.lay E.sub hp).out fun _ z => z.elim id False.elim)
      ⟨fun _ z => z, .tup (SqT.of upd_same) (h.mono (same_upd (same_none E.sub hp)))⟩
  | some (.newl ds) =>
    intro p vs hp h
    have P' : PostX C relRV Hf H w σ Q (.ok (.new (.lst ds)) ε) := P
    exact P' Hf (upd H p (.lst vs)) w (fun x => x = p) (.ref p) (E.layNew hp) (Stp.layNew hp)
      ⟨p, rfl, ⟨fun _ => Iff.rfl, vs, upd_same, h⟩, fun a z => by rw [z]; exact same_none E.sub hp, fun i a hw z => E.nw hp i a hw z⟩
  | some (.newd kvs) =>
    intro p vs hp h
    have P' : PostX C relRV Hf H w σ Q (.ok (.new (.dct kvs)) ε) := P
    exact P' Hf (upd H p (.dK vs)) w (fun x => x = p) (.ref p) (E.layNew hp) (Stp.layNew hp)
      ⟨p, rfl, ⟨fun _ => Iff.rfl, vs, upd_same, h⟩, fun a z => by rw [z]; exact same_none E.sub hp, fun i a hw z => E.nw hp i a hw z⟩

/-! ### argument lists -/
def msNil : M (List RV) := fun ε => .ok [] ε
def msCons (m : M RV) (ms : M (List RV)) : M (List RV) := fun ε => (m ε).bind fun r ε1 => (ms ε1).bind fun rs ε2 => .ok (r :: rs) ε2
section
variable {C : Ct} {ta tb : TE} {m m1 m2 : M RV} {tr : TA} {ms : M (List RV)}
theorem snd_nil : Snd C relOs tNil msNil := fun _ _ _ _ _ _ E P => P.here E ⟨fun _ z => z, .nil⟩
theorem snd_cons (h1 : Snd C relO ta m) (h2 : Snd C relOs tr ms) : Snd C relOs (tCons ta tr) (msCons m ms) := by
  intro Hf H w σ ε Q E P
  refine h1 Hf H w σ ε _ E ?_
  have P' : PostX C relOs Hf H w σ Q ((m ε).bind fun r ε1 => (ms ε1).bind fun rs ε2 => .ok (r :: rs) ε2) := P
  cases e : m ε with
  | err x ε1 => rw [e] at P'; exact P'
  | bad => rw [e] at P'; exact P'
  | ok r ε1 =>
    rw [e] at P'
    replace P' : PostX C relOs Hf H w σ Q ((ms ε1).bind fun rs ε2 => .ok (r :: rs) ε2) := P'
    intro Hf1 H1 w1 S b E1 st rb
    refine h2 Hf1 H1 w1 σ ε1 _ E1 ?_
    have P1 := P'.step st.noS
    cases e2 : ms ε1 with
    | err x ε2 => rw [e2] at P1; exact P1
    | bad => rw [e2] at P1; exact P1
    | ok rs ε2 =>
      rw [e2] at P1
      replace P1 : PostX C relOs Hf1 H1 w1 σ Q (.ok (r :: rs) ε2) := P1
      intro Hf2 H2 w2 S2 bs E2 st2 rbs
      exact P1 Hf2 H2 w2 S2 (b :: bs) E2 st2 ⟨rbs.1, .cons (rb.2.mono st2.mono) rbs.2⟩
/-- a call of something built in -/
def CallS (C : Ct) (r : List V → Hp → VK → Prop) (g : List D → Option Out) : Prop :=
  ∀ Hf H xs ds Q, Same Hf H → VwAll C Hf H xs ds → OutP C Hf H Q (g ds) → r xs H Q
def mCallB (g : List D → Option Out) (ms : M (List RV)) : M RV := fun ε => (ms ε).bind fun rs ε1 => match viewAll ε1 rs with
  | some ds => outR (g ds) ε1
  | none => .bad
theorem snd_callB {r : List V → Hp → VK → Prop} {g : List D → Option Out} (hc : CallS C r g) (h : Snd C relOs tr ms) : Snd C relRV (fun σ H Q => tr σ H fun vs H1 => r vs H1 Q) (mCallB g ms) :=
  Snd.bind h fun Hf H w σ ε S b a Q E rb P => by
    split at P
    · rename_i ds e
      exact hc Hf H b ds Q E.sub (rb.2.view E e) (OutP.of E P)
    · exact P.elim
/-- a two-place operation -/
def OpS (C : Ct) (r : R2) (g : D → D → Option Out) : Prop :=
  ∀ Hf H x y d e Q, Same Hf H → Vw C Hf H x d → Vw C Hf H y e → OutP C Hf H Q (g d e) → r x y H Q
def mOp (g : D → D → Option Out) (m1 m2 : M RV) : M RV := fun ε => (m1 ε).bind fun a ε1 => (m2 ε1).bind fun b ε2 => match view ε2 a, view ε2 b with
  | some d, some e => outR (g d e) ε2
  | _, _ => .bad
theorem snd_op {r : R2} {g : D → D → Option Out} (hc : OpS C r g) (h1 : Snd C relO ta m1) (h2 : Snd C relO tb m2) : Snd C relRV (tOp r ta tb) (mOp g m1 m2) := by
  intro Hf H w σ ε Q E P
  refine h1 Hf H w σ ε _ E ?_
  have P' : PostX C relRV Hf H w σ Q ((m1 ε).bind fun a ε1 => (m2 ε1).bind fun b ε2 => match view ε2 a, view ε2 b with
    | some d, some e => outR (g d e) ε2
    | _, _ => .bad) := P
  cases e : m1 ε with
  | err x ε1 => rw [e] at P'; exact P'
  | bad => rw [e] at P'; exact P'
  | ok r1 ε1 =>
    rw [e] at P'
    intro Hf1 H1 w1 S b E1 st rb
    refine h2 Hf1 H1 w1 σ ε1 _ E1 ?_
    have P1 := P'.step st.noS
    simp only [R.bind] at P1
    cases e2 : m2 ε1 with
    | err x ε2 => rw [e2] at P1; exact P1
    | bad => rw [e2] at P1; exact P1
    | ok r2 ε2 =>
      rw [e2] at P1
      simp only [R.bind] at P1
      intro Hf2 H2 w2 S2 b2 E2 st2 rb2
      have P2 := P1.step st2.noS
      split at P2
      · rename_i d1 d2 v1 v2
        exact hc Hf2 H2 b b2 d1 d2 Q E2.sub ((rb.2.mono st2.mono).view E2 v1) (rb2.2.view E2 v2) (OutP.of E2 P2)
      · exact P2.elim
/-- a one-place operation -/
def UnS (C : Ct) (r : V → Hp → VK → Prop) (g : D → Option Out) : Prop :=
  ∀ Hf H x d Q, Same Hf H → Vw C Hf H x d → OutP C Hf H Q (g d) → r x H Q
def mUn (g : D → Option Out) (m : M RV) : M RV := fun ε => (m ε).bind fun a ε1 => match view ε1 a with
  | some d => outR (g d) ε1
  | none => .bad
theorem snd_un {r : V → Hp → VK → Prop} {g : D → Option Out} (hc : UnS C r g) (h : Snd C relO ta m) : Snd C relRV (tUn r ta) (mUn g m) := by
  refine Snd.bind (Rel1 := relO) (t1 := ta) (t2 := fun x σ H Q => r x H Q) h fun Hf H w σ ε S b a Q E rb P => ?_
  · split at P
    · rename_i d e
      exact hc Hf H b d Q E.sub (rb.2.view E e) (OutP.of E P)
    · exact P.elim
end
end M3

namespace M3
open PySem PySem.Spec L2
open PyProof.Rows hiding St

/-! ### statements -/
inductive SR where
  | nx (ε : En)
  | rt (r : RV) (ε : En)
  | bk (ε : En)
  | ct (ε : En)
  | err (x : Xn) (ε : En)
  | bad
def PostS (C : Ct) (Hf H : Hp) (w : Own) (D : Ends) : SR → Prop
  | .nx ε' => ∀ Hf' H' w' σ', EnR C Hf' H' w' σ' ε' → Stp Hf H (O w) Hf' H' (O w') → D.nx σ' H'
  | .rt r ε' => ∀ Hf' H' w' σ' S v, EnR C Hf' H' w' σ' ε' → Stp Hf H (O w) Hf' H' (fun x => O w' x ∨ S x) → relRV C Hf' H' w' σ' S v r → D.rt v H'
  | .bk ε' => ∀ Hf' H' w' σ', EnR C Hf' H' w' σ' ε' → Stp Hf H (O w) Hf' H' (O w') → D.bk σ' H'
  | .ct ε' => ∀ Hf' H' w' σ', EnR C Hf' H' w' σ' ε' → Stp Hf H (O w) Hf' H' (O w') → D.ct σ' H'
  | .err x ε' => ∀ Hf' H' w' σ' cls d, EnR C Hf' H' w' σ' ε' → Stp Hf H (O w) Hf' H' (O w') → XnR C.K Hf' cls d x → C.W cls d σ' H'
  | .bad => False
abbrev Sm := En → SR
def SndS (C : Ct) (t : TS) (m : Sm) : Prop := ∀ Hf H w σ ε D, EnR C Hf H w σ ε → PostS C Hf H w D (m ε) → t D σ H
theorem PostS.step {C : Ct} {Hf H Hf1 H1 : Hp} {w w1 : Own} {D : Ends} {r : SR} (s : Stp Hf H (O w) Hf1 H1 (O w1)) (h : PostS C Hf H w D r) : PostS C Hf1 H1 w1 D r := by
  cases r with
  | nx ε' => exact fun Hf' H' w' σ' E st => h Hf' H' w' σ' E (s.trans st)
  | rt r ε' => exact fun Hf' H' w' σ' S v E st => h Hf' H' w' σ' S v E (s.trans st)
  | bk ε' => exact fun Hf' H' w' σ' E st => h Hf' H' w' σ' E (s.trans st)
  | ct ε' => exact fun Hf' H' w' σ' E st => h Hf' H' w' σ' E (s.trans st)
  | err x ε' => exact fun Hf' H' w' σ' cls d E st => h Hf' H' w' σ' cls d E (s.trans st)
  | bad => exact h
/-- a value first, then on -/
def R.toS {α : Type} : R α → (α → En → SR) → SR
  | .ok a ε, f => f a ε
  | .err x ε, _ => .err x ε
  | .bad, _ => .bad
theorem Snd.toS {α β : Type} {C : Ct} {Rel : Rl α β} {t : TX β} {m : M α} {f : α → En → SR} {D : Ends} {Hf H : Hp} {w : Own} {σ : L2.St} {ε : En} {k : β → Hp → Prop} (h : Snd C Rel t m) (E : EnR C Hf H w σ ε) (P : PostS C Hf H w D ((m ε).toS f))
    (hk : ∀ a ε1 Hf1 H1 w1 S b, m ε = .ok a ε1 → EnR C Hf1 H1 w1 σ ε1 → Stp Hf H (O w) Hf1 H1 (fun x => O w1 x ∨ S x) → Rel C Hf1 H1 w1 σ S b a → PostS C Hf H w D (f a ε1) → k b H1) : t σ H k := by
  refine h Hf H w σ ε k E ?_
  cases e : m ε with
  | ok a ε1 =>
    rw [e] at P
    exact fun Hf1 H1 w1 S b E1 st r => hk a ε1 Hf1 H1 w1 S b e E1 st r P
  | err x ε1 =>
    rw [e] at P
    exact fun Hf' H' w' cls d E1 st r => P Hf' H' w' σ cls d E1 st r
  | bad => rw [e] at P; exact P

/-! ### blocks, returns -/
def SR.seq : SR → Sm → SR
  | .nx ε, f => f ε
  | r, _ => r
def sSeq (m1 m2 : Sm) : Sm := fun ε => (m1 ε).seq m2
def sNext : Sm := fun ε => .nx ε
def sBad : Sm := fun _ => .bad
def sExpr (m : M RV) : Sm := fun ε => (m ε).toS fun _ ε1 => .nx ε1
def sRet (m : M RV) : Sm := fun ε => (m ε).toS fun r ε1 => .rt r ε1
def sIf (c : M Bool) (a b : Sm) : Sm := fun ε => (c ε).toS fun k ε1 => if k = true then a ε1 else b ε1
section
variable {C : Ct} {t u : TS} {m1 m2 : Sm} {te : TE} {m : M RV} {tc : TT} {c : M Bool}
theorem snds_next : SndS C tNext sNext := fun Hf H w σ ε D E P => P Hf H w σ E Stp.refl
theorem snds_seq (h1 : SndS C t m1) (h2 : SndS C u m2) : SndS C (tSeq t u) (sSeq m1 m2) := by
  intro Hf H w σ ε D E P
  refine h1 Hf H w σ ε _ E ?_
  have P' : PostS C Hf H w D ((m1 ε).seq m2) := P
  cases e : m1 ε with
  | nx ε1 =>
    rw [e] at P'
    exact fun Hf1 H1 w1 σ1 E1 st => h2 Hf1 H1 w1 σ1 ε1 D E1 (PostS.step st P')
  | rt r ε1 => rw [e] at P'; exact P'
  | bk ε1 => rw [e] at P'; exact P'
  | ct ε1 => rw [e] at P'; exact P'
  | err x ε1 => rw [e] at P'; exact P'
  | bad => rw [e] at P'; exact P'
theorem snds_ret (h : Snd C relRV te m) : SndS C (tRet te) (sRet m) := by
  intro Hf H w σ ε D E P
  exact h.toS E P fun a ε1 Hf1 H1 w1 S b _ E1 st r P1 => P1 Hf1 H1 w1 σ S b E1 st r
theorem snds_if (hc : Snd C relB tc c) (h1 : SndS C t m1) (h2 : SndS C u m2) : SndS C (tIfS tc t u) (sIf c m1 m2) := by
  intro Hf H w σ ε D E P
  refine hc.toS E P fun k ε1 Hf1 H1 w1 S b _ E1 st r P1 => ?_
  obtain ⟨_, rfl⟩ := r
  cases b with
  | true => exact h1 Hf1 H1 w1 σ ε1 D E1 (PostS.step st.noS P1)
  | false => exact h2 Hf1 H1 w1 σ ε1 D E1 (PostS.step st.noS P1)
end

/-! ### a name stored -/
def mStore (i : Nat) (r : RV) (ε : En) : Option En :=
  if i < ε.length then
    match r with
    | .fro d => some (ε.set i (some (.fro d)))
    | .new o => some (ε.set i (some (.own o)))
    | .raw v => some (ε.set i (some (.raw v)))
    | .at_ j => match ε[j]? with
      | some (some (.own (.lst ds))) => some ((ε.set j (some (.fro (.list ds)))).set i (some (.fro (.list ds))))
      | some (some (.fro d)) => some (ε.set i (some (.fro d)))
      | _ => none
  else none
section
variable {C : Ct} {Hf H : Hp} {w : Own} {σ : L2.St} {ε ε' : En} {S : Addr → Prop} {v : V} {r : RV} {i : Nat}
theorem store_put (E : EnR C Hf H w σ ε) (hi : i < σ.length) (hf : C.own.contains i = false) (e' : SV) (hS : SlotR C.K Hf H S (some (some v)) (some (some e'))) (d : ∀ j a, w j a → ¬ S a) (fr : ∀ a, S a → Hf a = none) :
    EnR C Hf H (wSet w i S) (σ.set i (some v)) (ε.set i (some e')) ∧ ∀ {Hf0 H0 : Hp} {o0 : Addr → Prop}, Stp Hf0 H0 o0 Hf H (fun x => O w x ∨ S x) → Stp Hf0 H0 o0 Hf H (O (wSet w i S)) := by
  refine ⟨E.put hi (Same.refl _) E.sub (fun _ _ _ _ => rfl) (some v) (some e') hS (fun j a _ h => d j a h) (fun j a _ h => E.fre j a h) fr (fun hc => by rw [hf] at hc; cases hc), fun st => st.out ?_⟩
  rintro x ⟨j, ⟨_, z⟩ | ⟨n, z⟩⟩
  · exact .inr z
  · exact .inl ⟨j, z⟩
theorem store_ok (E : EnR C Hf H w σ ε) (rv : relRV C Hf H w σ S v r) (e : mStore i r ε = some ε') (hf : C.own.contains i = false) :
    ∃ Hf' w', EnR C Hf' H w' (σ.set i (some v)) ε' ∧ ∀ {Hf0 H0 : Hp} {o0 : Addr → Prop}, Stp Hf0 H0 o0 Hf H (fun x => O w x ∨ S x) → Stp Hf0 H0 o0 Hf' H (O w') := by
  unfold mStore at e
  split at e
  · rename_i hi
    rw [← E.len] at hi
    have fro : ∀ d, r = .fro d → Dq C.K Hf v d → some (ε.set i (some (.fro d))) = some ε' → (∀ a, ¬ S a) → ∃ Hf' w', EnR C Hf' H w' (σ.set i (some v)) ε' ∧ ∀ {Hf0 H0 : Hp} {o0 : Addr → Prop}, Stp Hf0 H0 o0 Hf H (fun x => O w x ∨ S x) → Stp Hf0 H0 o0 Hf' H (O w') :=
      fun d _ q e n => by
        cases e
        obtain ⟨E', st⟩ := store_put (S := S) (v := v) E hi hf (.fro d) ⟨n, v, rfl, q⟩ (fun j a _ z => n a z) (fun a z => (n a z).elim)
        exact ⟨Hf, _, E', st⟩
    cases r with
    | fro d => exact fro d rfl rv.2 e rv.1
    | raw u =>
      obtain ⟨n, rfl⟩ := rv
      cases e
      obtain ⟨E', st⟩ := store_put (S := S) (v := v) E hi hf (.raw v) ⟨n, rfl⟩ (fun j a _ z => n a z) (fun a z => (n a z).elim)
      exact ⟨Hf, _, E', st⟩
    | new o =>
      obtain ⟨p, rfl, r1, r2, r3⟩ := rv
      cases e
      obtain ⟨E', st⟩ := store_put (S := S) (v := .ref p) E hi hf (.own o) ⟨p, rfl, r1⟩ r3 r2
      exact ⟨Hf, _, E', st⟩
    | at_ j =>
      obtain ⟨n, s1⟩ := rv
      dsimp only at e
      split at e
      · rename_i ds e1
        cases e
        obtain ⟨p, Hf2, w2, s2, dq, E2, st2, sub2⟩ := E.freeze e1
        rw [s1] at s2
        cases s2
        obtain ⟨E', st⟩ := store_put (S := S) (v := .ref p) E2 hi hf (.fro (.list ds)) ⟨n, _, rfl, dq⟩ (fun j a _ z => n a z) (fun a z => (n a z).elim)
        exact ⟨Hf2, _, E', fun s0 => st (Stp.out (s0.noS.trans st2) fun x z => z.elim id fun q => (n x q).elim)⟩
      · rename_i d e1
        have q := E.slot j
        rw [e1] at q
        obtain ⟨q0, u, q1, q2⟩ := q
        rw [s1] at q1
        cases q1
        cases e
        obtain ⟨E', st⟩ := store_put (S := S) (v := v) E hi hf (.fro d) ⟨n, v, rfl, q2⟩ (fun j a _ z => n a z) (fun a z => (n a z).elim)
        exact ⟨Hf, _, E', st⟩
      · cases e
  · cases e
end
def sSet (i : Nat) (m : M RV) : Sm := fun ε => (m ε).toS fun r ε1 => match mStore i r ε1 with
  | some ε2 => .nx ε2
  | none => .bad
theorem snds_set {C : Ct} {te : TE} {m : M RV} {i : Nat} (hf : C.own.contains i = false) (h : Snd C relRV te m) : SndS C (tAsg te (gName i)) (sSet i m) := by
  intro Hf H w σ ε D E P
  refine h.toS E P fun r ε1 Hf1 H1 w1 S b _ E1 st rv P1 => ?_
  split at P1
  · rename_i ε2 e
    obtain ⟨Hf2, w2, E2, st2⟩ := store_ok E1 rv e hf
    exact P1 Hf2 H1 w2 _ E2 (st2 st)
  · exact P1.elim

/-! ### targets of loops: patterns -/
inductive Pat where
  | nm (i : Nat)
  | tp (ps : List Pat)
mutual
def bindP : Pat → D → En → Option En
  | .nm i, d, ε => if i < ε.length then some (ε.set i (some (.fro d))) else none
  | .tp ps, .tuple ds, ε => bindPs ps ds ε
  | .tp ps, .list ds, ε => bindPs ps ds ε
  | .tp _, _, _ => none
def bindPs : List Pat → List D → En → Option En
  | [], [], ε => some ε
  | p :: ps, d :: ds, ε => match bindP p d ε with
    | some ε1 => bindPs ps ds ε1
    | none => none
  | _, _, _ => none
end
/-- only the slots vs may change -/
def Only (vs : List Nat) (σ σ' : L2.St) : Prop := σ'.length = σ.length ∧ ∀ j, vs.contains j = false → σ'[j]? = σ[j]?
def PatS (C : Ct) (g : TG) (vs : List Nat) (p : Pat) : Prop := ∀ Hf H w σ ε v d ε' Q, EnR C Hf H w σ ε → Dq C.K Hf v d → bindP p d ε = some ε' →
  (∀ σ' w', EnR C Hf H w' σ' ε' → Stp Hf H (O w) Hf H (O w') → Only vs σ σ' → Q σ' H) → g v σ H Q
def PatSs (C : Ct) (g : TGs) (vs : List Nat) (ps : List Pat) : Prop := ∀ Hf H w σ ε us ds ε' Q, EnR C Hf H w σ ε → DqAll C.K Hf us ds → bindPs ps ds ε = some ε' →
  (∀ σ' w', EnR C Hf H w' σ' ε' → Stp Hf H (O w) Hf H (O w') → Only vs σ σ' → Q σ' H) → g us σ H Q
theorem Only.refl {vs : List Nat} {σ : L2.St} : Only vs σ σ := ⟨rfl, fun _ _ => rfl⟩
theorem Only.trans {vs : List Nat} {a b c : L2.St} (h : Only vs a b) (k : Only vs b c) : Only vs a c := ⟨k.1.trans h.1, fun j hj => (k.2 j hj).trans (h.2 j hj)⟩
theorem pat_nm {C : Ct} {vs : List Nat} {i : Nat} (hf : C.own.contains i = false) (hv : vs.contains i = true) : PatS C (gName i) vs (.nm i) := by
  intro Hf H w σ ε v d ε' Q E q e k
  unfold bindP at e
  split at e
  · rename_i hi
    cases e
    rw [← E.len] at hi
    obtain ⟨E', st⟩ := store_put (S := fun _ => False) (v := v) E hi hf (.fro d) ⟨fun _ z => z, v, rfl, q⟩ (fun _ _ _ z => z) (fun _ z => z.elim)
    refine k _ _ E' (st (Stp.refl.out fun x z => z.elim id False.elim)) ⟨List.length_set, fun j hj => ?_⟩
    have : i ≠ j := fun z => by rw [← z, hv] at hj; cases hj
    exact List.getElem?_set_ne this
  · cases e
theorem pats_nil {C : Ct} {vs : List Nat} : PatSs C gNil vs [] := by
  intro Hf H w σ ε us ds ε' Q E q e k
  cases q with
  | nil => cases e; exact ⟨rfl, k σ w E Stp.refl Only.refl⟩
  | cons _ _ => cases e
theorem pats_cons {C : Ct} {vs : List Nat} {g : TG} {gs : TGs} {p : Pat} {ps : List Pat} (h : PatS C g vs p) (hs : PatSs C gs vs ps) : PatSs C (gCons g gs) vs (p :: ps) := by
  intro Hf H w σ ε us ds ε' Q E q e k
  cases q with
  | nil => cases e
  | cons a b =>
    unfold bindPs at e
    split at e
    · rename_i ε1 e1
      exact ⟨_, _, rfl, h Hf H w σ ε _ _ ε1 _ E a e1 fun σ1 w1 E1 st1 o1 => hs Hf H w1 σ1 ε1 _ _ ε' Q E1 b e fun σ2 w2 E2 st2 o2 => k σ2 w2 E2 (st1.trans st2) (o1.trans o2)⟩
    · cases e
def gSeq (K : PySem.W.Frag) (n : Nat) (t : TGs) : TG := fun v σ H Q => gTup K n t v σ H Q ∨ gLst K n t v σ H Q
theorem bindPs_len : ∀ {ps : List Pat} {ds : List D} {ε ε' : En}, bindPs ps ds ε = some ε' → ds.length = ps.length
  | [], [], _, _, _ => rfl
  | [], _ :: _, _, _, e => by cases e
  | _ :: _, [], _, _, e => by cases e
  | p :: ps, d :: ds, ε, ε', e => by
    unfold bindPs at e
    split at e
    · exact congrArg Nat.succ (bindPs_len e)
    · cases e
theorem pat_tp {C : Ct} {vs : List Nat} {gs : TGs} {ps : List Pat} {n : Nat} (h : PatSs C gs vs ps) (hn : ps.length = n) : PatS C (gSeq C.K n gs) vs (.tp ps) := by
  intro Hf H w σ ε v d ε' Q E q e k
  cases q with
  | tup h1 h2 =>
    exact .inl ⟨_, _, rfl, Same.tup E.sub h1, by rw [h2.length, bindPs_len e, hn], h Hf H w σ ε _ _ ε' Q E h2 e k⟩
  | lst h1 h2 =>
    exact .inr ⟨_, _, rfl, SqL.of (E.sub _ _ h1), by rw [h2.length, bindPs_len e, hn], h Hf H w σ ε _ _ ε' Q E h2 e k⟩
  | _ => cases e
theorem pg_seq {X : Cx} {es : List Expr} {k : Nat} {t : TGs} {n : Nat} {pos : Pos} (hc : X.calm = true) (h : PGs X es t)
    (hn : (assignEach es X.env).length = n := by rfl) (hst : (assignEach es X.env).findIdx? (·.1) = none := by rfl) : PG X (.Tuple es k pos) (gSeq X.K n t) := by
  refine ⟨fun pins s σ H v u Q I r hw => ?_⟩
  rcases hw with hw | hw
  · exact (pg_tup hc h hn hst).run pins s σ H v u Q I r hw
  · exact (pg_lst hc h hn hst).run pins s σ H v u Q I r hw

/-! ### what is walked -/
def ItR (C : Ct) (Hf : Hp) (J : It) (ds : List D) : Prop := ∃ (G : Hp → Prop) (Y : Nat → Hp → V → Hp → Prop), Walk J ds.length G Y ∧ (∀ H', Same Hf H' → G H') ∧
  ∀ Hf' H' i x H'', i < ds.length → Same Hf Hf' → Same Hf' H' → Y i H' x H'' → ∃ d, ds[i]? = some d ∧
    ((H'' = H' ∧ Dq C.K Hf' x d) ∨ ∃ p o, H' p = none ∧ H'' = upd H' p o ∧ Dq C.K (upd Hf' p o) x d)
def relI : Rl (List D) It := fun C Hf H w σ S J ds => (∀ a, ¬ S a) ∧ ItR C Hf J ds

/-! ### for -/
def sLoop (p : Pat) (body : Sm) : List D → En → SR
  | [], ε => .nx ε
  | d :: ds, ε => match bindP p d ε with
    | none => .bad
    | some ε1 => match body ε1 with
      | .nx ε2 => sLoop p body ds ε2
      | .ct ε2 => sLoop p body ds ε2
      | .bk ε2 => .nx ε2
      | r => r
def sFor (mi : M (List D)) (p : Pat) (body : Sm) : Sm := fun ε => (mi ε).toS fun ds ε1 => sLoop p body ds ε1
theorem snds_for {C : Ct} {wi : TI} {mi : M (List D)} {g : TG} {vs : List Nat} {p : Pat} {tb : TS} {body : Sm} (hi : Snd C relI wi mi) (hg : PatS C g vs p) (hb : SndS C tb body) : SndS C (tFor wi g tb) (sFor mi p body) := by
  intro Hf H w σ ε D E P
  refine hi.toS E P fun ds ε1 Hf1 H1 w1 S J _ E1 st1 rJ P1 => ?_
  obtain ⟨_, G, Y, wk, hG, hY⟩ := rJ
  have P2 := PostS.step st1.noS P1
  refine for_it wk (fun i σ' H' => ∃ Hf' w' ε', EnR C Hf' H' w' σ' ε' ∧ Stp Hf1 H1 (O w1) Hf' H' (O w') ∧ PostS C Hf' H' w' D (sLoop p body (ds.drop i) ε')) ⟨Hf1, w1, ε1, E1, Stp.refl, P2⟩ ?_ ?_ ?_
  · rintro i σ' H' _ ⟨Hf', w', ε', E', st', _⟩
    exact hG H' (st'.mono.trans E'.sub)
  · rintro i x σ' H' H'' hi' ⟨Hf', w', ε', E', st', P'⟩ y
    obtain ⟨d, hd, hc⟩ := hY Hf' H' i x H'' hi' st'.mono E'.sub y
    have ed : ds.drop i = d :: ds.drop (i + 1) := by
      obtain ⟨h1, h2⟩ := List.getElem?_eq_some_iff.mp hd
      rw [List.drop_eq_getElem_cons h1, h2]
    rw [ed] at P'
    unfold sLoop at P'
    obtain ⟨Hf2, st2, E2, dq⟩ : ∃ Hf2, Stp Hf' H' (O w') Hf2 H'' (O w') ∧ EnR C Hf2 H'' w' σ' ε' ∧ Dq C.K Hf2 x d := by
      rcases hc with ⟨rfl, dq⟩ | ⟨p0, o, hp, rfl, dq⟩
      · exact ⟨Hf', Stp.refl, E', dq⟩
      · exact ⟨_, Stp.lay E'.sub hp, E'.lay hp, dq⟩
    cases e : bindP p d ε' with
    | none => rw [e] at P'; exact P'.elim
    | some ε2 =>
      rw [e] at P'
      dsimp only at P'
      refine hg Hf2 H'' w' σ' ε' x d ε2 _ E2 dq e fun σ3 w3 E3 st3 _ => ?_
      refine hb Hf2 H'' w3 σ3 ε2 _ E3 ?_
      have P3 := PostS.step (st2.trans st3) P'
      have st13 := st'.trans (st2.trans st3)
      cases eb : body ε2 with
      | nx ε4 =>
        rw [eb] at P3
        exact fun Hf4 H4 w4 σ4 E4 st4 => ⟨Hf4, w4, ε4, E4, st13.trans st4, PostS.step st4 P3⟩
      | ct ε4 =>
        rw [eb] at P3
        exact fun Hf4 H4 w4 σ4 E4 st4 => ⟨Hf4, w4, ε4, E4, st13.trans st4, PostS.step st4 P3⟩
      | bk ε4 => rw [eb] at P3; exact P3
      | rt r ε4 => rw [eb] at P3; exact P3
      | err x ε4 => rw [eb] at P3; exact P3
      | bad => rw [eb] at P3; exact P3
  · rintro σ' H' ⟨Hf', w', ε', E', st', P'⟩
    rw [List.drop_length] at P'
    exact P' Hf' H' w' σ' E' Stp.refl

/-! ### while -/
end M3

namespace M3
open PySem PySem.Spec L2
open PyProof.Rows hiding St

abbrev noW : WX := fun _ _ _ _ => False
abbrev cx (X : Cx) (ow : List Nat) (vs : List V) (W : WX) : Ct := ⟨X.K, ow, vs, W⟩

/-! ### slots wiped and put back (comprehensions) -/
def wipeE (ε : En) : List Nat → En
  | [] => ε
  | v :: vs => (wipeE ε vs).set v none
def restE (ε1 εF : En) : List Nat → En
  | [] => εF
  | v :: vs => (restE ε1 εF vs).set v (ε1.getD v none)
theorem wipe_get (σ : L2.St) : ∀ (vs : List Nat) (j : Nat), (wipe σ vs)[j]? = if vs.contains j = true then (if j < σ.length then some none else none) else σ[j]?
  | [], j => by simp [wipe]
  | v :: vs, j => by
    unfold wipe
    by_cases h : v = j
    · subst h
      have hl : (wipe σ vs).length = σ.length := wipe_length σ vs
      by_cases hv : v < σ.length
      · rw [List.getElem?_set_self (by rw [hl]; exact hv)]; simp [hv]
      · rw [List.getElem?_eq_none (by rw [List.length_set, hl]; omega)]; simp [hv]
    · rw [List.getElem?_set_ne h, wipe_get σ vs j]
      have : (v :: vs).contains j = vs.contains j := by
        rw [List.contains_cons]
        have : (j == v) = false := by simpa using fun z => h z.symm
        rw [this, Bool.false_or]
      rw [this]
theorem wipeE_length (ε : En) : ∀ vs : List Nat, (wipeE ε vs).length = ε.length
  | [] => rfl
  | v :: vs => by unfold wipeE; rw [List.length_set, wipeE_length ε vs]
theorem wipeE_get (ε : En) : ∀ (vs : List Nat) (j : Nat), (wipeE ε vs)[j]? = if vs.contains j = true then (if j < ε.length then some none else none) else ε[j]?
  | [], j => by simp [wipeE]
  | v :: vs, j => by
    unfold wipeE
    by_cases h : v = j
    · subst h
      have hl : (wipeE ε vs).length = ε.length := wipeE_length ε vs
      by_cases hv : v < ε.length
      · rw [List.getElem?_set_self (by rw [hl]; exact hv)]; simp [hv]
      · rw [List.getElem?_eq_none (by rw [List.length_set, hl]; omega)]; simp [hv]
    · rw [List.getElem?_set_ne h, wipeE_get ε vs j]
      have : (v :: vs).contains j = vs.contains j := by
        rw [List.contains_cons]
        have : (j == v) = false := by simpa using fun z => h z.symm
        rw [this, Bool.false_or]
      rw [this]
theorem restE_length (ε1 ε : En) : ∀ vs : List Nat, (restE ε1 ε vs).length = ε.length
  | [] => rfl
  | v :: vs => by unfold restE; rw [List.length_set, restE_length ε1 ε vs]
theorem restE_get (ε1 ε : En) : ∀ (vs : List Nat) (j : Nat), (restE ε1 ε vs)[j]? = if vs.contains j = true then (if j < ε.length then some (ε1.getD j none) else none) else ε[j]?
  | [], j => by simp [restE]
  | v :: vs, j => by
    unfold restE
    by_cases h : v = j
    · subst h
      have hl : (restE ε1 ε vs).length = ε.length := restE_length ε1 ε vs
      by_cases hv : v < ε.length
      · rw [List.getElem?_set_self (by rw [hl]; exact hv)]; simp [hv]
      · rw [List.getElem?_eq_none (by rw [List.length_set, hl]; omega)]; simp [hv]
    · rw [List.getElem?_set_ne h, restE_get ε1 ε vs j]
      have : (v :: vs).contains j = vs.contains j := by
        rw [List.contains_cons]
        have : (j == v) = false := by simpa using fun z => h z.symm
        rw [this, Bool.false_or]
      rw [this]
theorem only_wipe {vs : List Nat} {a b : L2.St} (h : Only vs a b) : wipe b vs = wipe a vs := by
  apply List.ext_getElem?
  intro j
  rw [wipe_get, wipe_get, h.1]
  by_cases hc : vs.contains j = true
  · rw [if_pos hc, if_pos hc]
  · rw [if_neg hc, if_neg hc]; exact h.2 j (by simpa using hc)
theorem wipe_only {vs : List Nat} {σ : L2.St} : Only vs σ (wipe σ vs) := ⟨wipe_length σ vs, fun j hj => by rw [wipe_get, hj]; simp⟩
def wWipe (w : Own) (vs : List Nat) : Own := fun i a => vs.contains i = false ∧ w i a

section
variable {C C' : Ct} {Hf H Hf' H' : Hp} {w w' : Own} {σ : L2.St} {ε ε' : En}
theorem EnR.recast (E : EnR C Hf H w σ ε) (hK : C'.K = C.K) (ho : C'.own = C.own) (hv : C'.vs = C.vs) : EnR C' Hf H w σ ε := by
  obtain ⟨K, o, v, W⟩ := C
  obtain ⟨K', o', v', W'⟩ := C'
  dsimp only at hK ho hv
  subst hK ho hv
  exact ⟨E.sub, E.slot, E.sep, E.fre, E.len, E.fix⟩
theorem EnR.wiped (E : EnR C Hf H w σ ε) {vs : List Nat} (hv : ∀ i, vs.contains i = true → C.own.contains i = false) : EnR C Hf H (wWipe w vs) (wipe σ vs) (wipeE ε vs) where
  sub := E.sub
  slot := fun j => by
    rw [wipe_get, wipeE_get]
    by_cases hc : vs.contains j = true
    · rw [if_pos hc, if_pos hc]
      have nn : ∀ a, ¬ wWipe w vs j a := fun a z => by
        have z1 := z.1
        rw [hc] at z1
        cases z1
      rw [E.len]
      by_cases hj : j < ε.length
      · rw [if_pos hj, if_pos hj]; exact nn
      · rw [if_neg hj, if_neg hj]; exact nn
    · rw [if_neg hc, if_neg hc]
      refine (E.slot j).congr fun a => ⟨fun z => z.2, fun z => ⟨by simpa using hc, z⟩⟩
  sep := fun i j a h1 h2 => E.sep i j a h1.2 h2.2
  fre := fun i a h => E.fre i a h.2
  len := by rw [wipe_length, wipeE_length]; exact E.len
  fix := fun i v h1 h2 => by
    have : ¬ vs.contains i = true := fun z => by rw [hv i z] at h1; cases h1
    rw [wipe_get, if_neg this]
    exact E.fix i v h1 h2
/-- behind a block: the slots vs as they were ahead of it -/
theorem EnR.restored (E : EnR C Hf H w σ ε) {vs : List Nat} {o o' : Addr → Prop} (E' : EnR C Hf' H' w' (wipe σ vs) ε') (st : Stp Hf H o Hf' H' o') (ho : ∀ i a, vs.contains i = true → w i a → ¬ o a) (ho' : ∀ a, O w' a → o' a) :
    EnR C Hf' H' (fun i a => (vs.contains i = true ∧ w i a) ∨ (vs.contains i = false ∧ w' i a)) σ (restE ε ε' vs) := by
  have keepO : ∀ i a, vs.contains i = true → w i a → H' a = H a ∧ Hf' a = Hf a ∧ ¬ o' a := fun i a hc hw => st.rest a (E.there hw) (ho i a hc hw)
  have el : ε.length = ε'.length := by rw [← E.len, ← E'.len, wipe_length]
  refine ⟨E'.sub, fun j => ?_, fun i j a h1 h2 => ?_, fun i a h => ?_, ?_, fun i v h1 h2 => E.fix i v h1 h2⟩
  · rw [restE_get]
    by_cases hc : vs.contains j = true
    · rw [if_pos hc]
      have q := (E.slot j).keep st.mono fun a hw => (keepO j a hc hw).1
      refine SlotR.congr (S := w j) (fun a => ⟨fun z => z.elim And.right fun y => (Bool.noConfusion (hc.symm.trans y.1)), fun z => Or.inl ⟨hc, z⟩⟩) ?_
      by_cases hj : j < ε'.length
      · rw [if_pos hj]
        have hj2 : j < ε.length := by omega
        rw [List.getElem?_eq_getElem hj2] at q
        rw [show ε.getD j none = ε[j] by simp [List.getD, hj2]]
        exact q
      · rw [if_neg hj]
        rw [List.getElem?_eq_none (show ε.length ≤ j by omega)] at q
        exact q
    · rw [if_neg hc]
      have q := E'.slot j
      rw [wipe_get, if_neg hc] at q
      have hc' : vs.contains j = false := by simpa using hc
      exact q.congr fun a => ⟨fun z => z.elim (fun y => Bool.noConfusion (hc'.symm.trans y.1)) And.right, fun z => Or.inr ⟨hc', z⟩⟩
  · rcases h1 with ⟨c1, h1⟩ | ⟨c1, h1⟩ <;> rcases h2 with ⟨c2, h2⟩ | ⟨c2, h2⟩
    · exact E.sep i j a h1 h2
    · exact absurd (ho' a ⟨j, h2⟩) (keepO i a c1 h1).2.2
    · exact absurd (ho' a ⟨i, h1⟩) (keepO j a c2 h2).2.2
    · exact E'.sep i j a h1 h2
  · rcases h with ⟨c, h⟩ | ⟨c, h⟩
    · rw [(keepO i a c h).2.1]; exact E.fre i a h
    · exact E'.fre i a h
  · rw [restE_length, ← el]; exact E.len
/-- an object aside is changed -/
theorem EnR.aside (E : EnR C Hf H w σ ε) {p : Addr} {o : HO} (hf : Hf p = none) (hw : ∀ i a, w i a → a ≠ p) : EnR C Hf (upd H p o) w σ ε :=
  ⟨fun b u q => by
    have : b ≠ p := fun z => by rw [z, hf] at q; cases q
    rw [upd_ne this]; exact E.sub b u q, fun i => (E.slot i).keep (Same.refl _) fun a z => upd_ne (hw i a z), E.sep, E.fre, E.len, E.fix⟩
end

/-! ### list comprehensions -/
def mYes : M Bool := fun ε => .ok true ε
theorem snd_yes {C : Ct} : Snd C relB tYes mYes := fun _ _ _ _ _ _ E P => P.here E ⟨fun _ z => z, rfl⟩
def lcLoop (p : Pat) (vs : List Nat) (c : M Bool) (m : M D) : List D → List D → En → R (List D)
  | [], acc, ε => .ok acc ε
  | d :: ds, acc, ε => match bindP p d ε with
    | none => .bad
    | some ε1 => match c ε1 with
      | .ok true ε2 => (match m ε2 with
        | .ok y ε3 => if acc.length < sizeLine then lcLoop p vs c m ds (acc ++ [y]) (wipeE ε3 vs) else .bad
        | _ => .bad)
      | .ok false ε2 => lcLoop p vs c m ds acc (wipeE ε2 vs)
      | _ => .bad
def mLc (mi : M (List D)) (p : Pat) (vs : List Nat) (c : M Bool) (m : M D) : M RV := fun ε => (mi ε).bind fun ds ε1 => match lcLoop p vs c m ds [] (wipeE ε1 vs) with
  | .ok acc ε2 => .ok (.new (.lst acc)) (restE ε1 ε2 vs)
  | _ => .bad
theorem snd_lc {C C' : Ct} {wi : TI} {mi : M (List D)} {g : TG} {vs : List Nat} {p : Pat} {tt : TT} {c : M Bool} {te : TE} {m : M D} (hv : ∀ i, vs.contains i = true → C.own.contains i = false)
    (hK : C'.K = C.K) (ho : C'.own = C.own) (hvs : C'.vs = C.vs) (hi : Snd C relI wi mi) (hg : PatS C' g vs p) (hc : Snd C' relB tt c) (he : Snd C' relD te m) : Snd C relRV (tLc wi g tt te vs) (mLc mi p vs c m) := by
  refine Snd.bind (Rel1 := relI) (t1 := wi) (t2 := fun (J : It) (σ : L2.St) (H1 : Hp) (Q : VK) => ∀ D : Addr, H1 D = none → ∃ W : Nat → Nat → Hp → Prop, (∃ m, W 0 m (upd H1 D (.lst []))) ∧ ∀ i m H, W i m H →
    (J.stop i H ∧ Q (.ref D) H) ∨ (J.go i H ∧ ∃ Nx : Hp → Prop, (∀ H', Nx H' → ∃ m', m' < m ∧ W (i + 1) m' H') ∧ ∀ x H', J.yld i H x H' → g x (wipe σ vs) H' fun σ2 H2 => wipe σ2 vs = wipe σ vs ∧ tt σ2 H2 fun b H3 =>
      if b = true then te σ2 H3 fun y H4 => ∃ acc, H4 D = some (.lst acc) ∧ acc.length < sizeLine ∧ Nx (upd H4 D (.lst (acc ++ [y]))) else Nx H3)) hi fun Hf H w σ ε S J ds Q E rJ P => ?_
  obtain ⟨_, G, Y, wk, hG, hY⟩ := rJ
  intro D hD
  have hfD : Hf D = none := same_none E.sub hD
  cases eL : lcLoop p vs c m ds [] (wipeE ε vs) with
  | bad => rw [eL] at P; exact P.elim
  | err x ε2 => rw [eL] at P; exact P.elim
  | ok accF εF =>
  rw [eL] at P
  replace P : PostX C relRV Hf H w σ Q (.ok (.new (.lst accF)) (restE ε εF vs)) := P
  have Ew := ((E.wiped hv).recast (C' := C') hK ho hvs)
  refine lc_it (Qd := fun H => Q (.ref D) H) wk (fun i H' => ∃ Hf' w' ε' acc av, EnR C' Hf' H' w' (wipe σ vs) ε' ∧ H' D = some (.lst av) ∧ DqAll C'.K Hf' av acc ∧ Hf' D = none ∧ (∀ i a, w' i a → a ≠ D) ∧
    Stp Hf H (O (wWipe w vs)) Hf' H' (fun x => O w' x ∨ x = D) ∧ lcLoop p vs c m (ds.drop i) acc ε' = .ok accF εF) ?_ ?_ ?_ ?_
  · exact ⟨Hf, wWipe w vs, wipeE ε vs, [], [], Ew.layNew hD, upd_same, .nil, hfD, fun i a z => E.nw hD i a z.2, Stp.layNew hD, eL⟩
  · rintro i H' _ ⟨Hf', w', ε', acc, av, E', _, _, _, _, st, _⟩
    exact hG H' (st.mono.trans E'.sub)
  · rintro i x H' H'' hi' ⟨Hf', w', ε', acc, av, E', h1, h2, h3, h4, st, el⟩ y
    obtain ⟨d, hd, hcs⟩ := hY Hf' H' i x H'' hi' st.mono E'.sub y
    have ed : ds.drop i = d :: ds.drop (i + 1) := by
      obtain ⟨h1, h2⟩ := List.getElem?_eq_some_iff.mp hd
      rw [List.drop_eq_getElem_cons h1, h2]
    rw [ed] at el
    unfold lcLoop at el
    obtain ⟨Hf2, st2, E2, dq, hD2, hfD2⟩ : ∃ Hf2, Stp Hf' H' (fun x => O w' x ∨ x = D) Hf2 H'' (fun x => O w' x ∨ x = D) ∧ EnR C' Hf2 H'' w' (wipe σ vs) ε' ∧ Dq C.K Hf2 x d ∧ H'' D = some (.lst av) ∧ Hf2 D = none := by
      rcases hcs with ⟨rfl, dq⟩ | ⟨p0, o, hp, rfl, dq⟩
      · exact ⟨Hf', Stp.refl, E', dq, h1, h3⟩
      · have ne : D ≠ p0 := fun z => by rw [← z, h1] at hp; cases hp
        exact ⟨_, Stp.lay E'.sub hp, E'.lay hp, dq, by rw [upd_ne ne]; exact h1, by rw [upd_ne ne]; exact h3⟩
    cases e : bindP p d ε' with
    | none => rw [e] at el; cases el
    | some ε1 =>
    rw [e] at el
    dsimp only at el
    refine hg Hf2 H'' w' (wipe σ vs) ε' x d ε1 _ E2 (by rw [hK]; exact dq) e fun σ3 w3 E3 st3 on3 => ?_
    have ow : wipe σ3 vs = wipe σ vs := by rw [only_wipe on3, only_wipe wipe_only]
    refine ⟨ow, ?_⟩
    -- D is nobody's
    have nw3 : ∀ i a, w3 i a → a ≠ D := fun i a hw z => by
      have := (st3.rest D (by rw [hD2]; simp) (fun ⟨j, q⟩ => h4 j D q rfl)).2.2
      exact this ⟨i, by rw [← z]; exact hw⟩
    have stA : Stp Hf H (O (wWipe w vs)) Hf2 H'' (fun x => O w3 x ∨ x = D) := by
      refine st.trans (st2.trans ⟨st3.mono, fun a ha na => ?_⟩)
      have nb : ¬ O w' a := fun z => na (.inl z)
      obtain ⟨q1, q2, q3⟩ := st3.rest a ha nb
      exact ⟨q1, q2, fun z => z.elim q3 fun z => na (.inr z)⟩
    refine hc Hf2 H'' w3 σ3 ε1 _ E3 ?_
    -- how a step of something within goes on
    have within : ∀ {Hf4 H4 : Hp} {w4 : Own} {S4 : Addr → Prop}, EnR C' Hf4 H4 w4 σ3 ε1 ∨ True → Stp Hf2 H'' (O w3) Hf4 H4 (fun x => O w4 x ∨ S4 x) → H4 D = some (.lst av) ∧ Hf4 D = none ∧ (∀ i a, w4 i a → a ≠ D) ∧ Stp Hf H (O (wWipe w vs)) Hf4 H4 (fun x => O w4 x ∨ x = D) := by
      intro Hf4 H4 w4 S4 _ s4
      obtain ⟨q1, q2, q3⟩ := s4.rest D (by rw [hD2]; simp) (fun ⟨j, q⟩ => nw3 j D q rfl)
      refine ⟨q1.trans hD2, q2.trans hfD2, fun i a hw z => q3 (.inl ⟨i, by rw [← z]; exact hw⟩), stA.trans ⟨s4.mono, fun a ha na => ?_⟩⟩
      obtain ⟨r1, r2, r3⟩ := s4.rest a ha (fun z => na (.inl z))
      exact ⟨r1, r2, fun z => z.elim (fun z => r3 (.inl z)) fun z => na (.inr z)⟩
    cases ec : c ε1 with
    | bad => rw [ec] at el; cases el
    | err x4 ε4 => rw [ec] at el; cases el
    | ok b ε2 =>
    rw [ec] at el
    intro Hf4 H4 w4 S4 b4 E4 s4 r4
    obtain ⟨_, rfl⟩ := r4
    obtain ⟨k1, k2, k3, k4⟩ := within (.inr trivial) s4
    cases b4 with
    | false =>
      dsimp only at el
      rw [if_neg (by simp)]
      have E5 := E4.wiped (vs := vs) (by rw [ho]; exact hv)
      rw [ow] at E5
      exact ⟨Hf4, wWipe w4 vs, wipeE ε2 vs, acc, av, E5, k1, DqAll.mono (st2.mono.trans s4.mono) h2, k2, fun i a z => k3 i a z.2, k4.out fun x z => z.elim (fun ⟨j, q⟩ => .inl ⟨j, q.2⟩) .inr, el⟩
    | true =>
      dsimp only at el
      rw [if_pos rfl]
      refine he Hf4 H4 w4 σ3 ε2 _ E4 ?_
      cases em : m ε2 with
      | bad => rw [em] at el; cases el
      | err x5 ε5 => rw [em] at el; cases el
      | ok y5 ε3 =>
      rw [em] at el
      dsimp only at el
      intro Hf5 H5 w5 S5 b5 E5 s5 r5
      split at el
      · rename_i hlen
        obtain ⟨q1, q2, q3⟩ := s5.rest D (by rw [k1]; simp) (fun ⟨j, q⟩ => k3 j D q rfl)
        have hav : DqAll C'.K Hf5 av acc := DqAll.mono (st2.mono.trans (s4.mono.trans s5.mono)) h2
        refine ⟨av, q1.trans k1, by rw [hav.length]; exact hlen, ?_⟩
        have E6 := E5.wiped (vs := vs) (by rw [ho]; exact hv)
        rw [ow] at E6
        have nw5 : ∀ i a, w5 i a → a ≠ D := fun i a hw z => q3 (.inl ⟨i, by rw [← z]; exact hw⟩)
        refine ⟨Hf5, wWipe w5 vs, wipeE ε3 vs, acc ++ [y5], av ++ [b5], E6.aside (q2.trans k2) (fun i a z => nw5 i a z.2), upd_same, hav.append (.cons r5.2 .nil), q2.trans k2, fun i a z => nw5 i a z.2, ?_, el⟩
        refine k4.trans ⟨s5.mono, fun a ha na => ?_⟩
        obtain ⟨r1, r2, r3⟩ := s5.rest a ha (fun z => na (.inl z))
        have aD : a ≠ D := fun z => na (.inr z)
        exact ⟨by rw [upd_ne aD]; exact r1, r2, fun z => z.elim (fun ⟨j, q⟩ => r3 (.inl ⟨j, q.2⟩)) fun z => na (.inr z)⟩
      · cases el
  · rintro H' ⟨Hf', w', ε', acc, av, E', h1, h2, h3, h4, st, el⟩
    rw [List.drop_length] at el
    unfold lcLoop at el
    cases el
    have E'' : EnR C Hf' H' w' (wipe σ vs) εF := E'.recast hK.symm ho.symm hvs.symm
    have hoo : ∀ i a, vs.contains i = true → w i a → ¬ O (wWipe w vs) a := fun i a hcv hw => fun ⟨j, q⟩ => by
      have := E.sep i j a hw q.2
      have q1 := q.1
      rw [← this, hcv] at q1
      cases q1
    have E7 := E.restored E'' st hoo (fun a z => .inl z)
    refine P Hf' H' _ (fun x => x = D) (.ref D) E7 ?_ ⟨D, rfl, ⟨fun _ => Iff.rfl, av, h1, by rw [← hK]; exact h2⟩, fun a z => by rw [z]; exact h3, fun i a hw z => ?_⟩
    · refine ⟨st.mono, fun a ha na => ?_⟩
      obtain ⟨r1, r2, r3⟩ := st.rest a ha (fun ⟨j, q⟩ => na ⟨j, q.2⟩)
      refine ⟨r1, r2, fun z => z.elim (fun ⟨j, q⟩ => ?_) fun z => r3 (.inr z)⟩
      rcases q with ⟨_, q⟩ | ⟨_, q⟩
      · exact na ⟨j, q⟩
      · exact r3 (.inl ⟨j, q⟩)
    · rcases hw with ⟨_, q⟩ | ⟨_, q⟩
      · exact E.nw hD i a q z
      · exact h4 i a q z
end M3

namespace M3
open PySem PySem.Spec L2
open PyProof.Rows hiding St

/-! ### tests -/
def truthD : D → Option Bool
  | .none => some false
  | .bool b => some b
  | .int i => some (i != 0)
  | .str x => if x.length ≤ sizeLine then some ((x.length : Int) != 0) else none
  | .list ds => some (!ds.isEmpty)
  | .tuple ds => some (!ds.isEmpty)
  | .dict _ => none
theorem DqAll.isEmpty {K : PySem.W.Frag} {H : Hp} {vs : List V} {ds : List D} (h : DqAll K H vs ds) : vs.isEmpty = ds.isEmpty := by
  cases h <;> rfl
theorem truV {C : Ct} {Hf H : Hp} {v : V} {d : D} {k : Bool} (s : Same Hf H) (h : Vw C Hf H v d) (e : truthD d = some k) : TruV C.K v H k := by
  cases d with
  | list ds =>
    obtain ⟨p, vs, rfl, h1, h2⟩ := h
    cases e
    exact .inl ⟨vs, SqL.of h1, by rw [h2.isEmpty]⟩
  | tuple ds =>
    cases h with
    | tup h1 h2 =>
      cases e
      exact .inr (.inl ⟨_, Same.tup s h1, by rw [h2.isEmpty]⟩)
  | none => cases h; cases e; exact rfl
  | bool b => cases h; cases e; exact rfl
  | int i => cases h; cases e; exact rfl
  | str x =>
    cases h
    have e' : (if x.length ≤ sizeLine then some ((x.length : Int) != 0) else none) = some k := e
    by_cases hx : x.length ≤ sizeLine
    · rw [if_pos hx] at e'
      cases e'
      exact ⟨hx, rfl⟩
    · rw [if_neg hx] at e'
      cases e'
  | dict k => cases h
def tTru (K : PySem.W.Frag) (te : TE) : TT := fun σ H Q => te σ H fun x H' => ∃ k, TruV K x H' k ∧ Q k H'
def mTru (m : M RV) : M Bool := fun ε => (m ε).bind fun r ε1 => match (view ε1 r).bind truthD with
  | some k => .ok k ε1
  | none => .bad
def mBl (m : M RV) : M Bool := fun ε => (m ε).bind fun r ε1 => match r with
  | .fro (.bool b) => .ok b ε1
  | _ => .bad
def mAnd (a b : M Bool) : M Bool := fun ε => (a ε).bind fun k ε1 => if k = true then b ε1 else .ok false ε1
def mOr (a b : M Bool) : M Bool := fun ε => (a ε).bind fun k ε1 => if k = true then .ok true ε1 else b ε1
def mNot (a : M Bool) : M Bool := fun ε => (a ε).bind fun k ε1 => .ok (!k) ε1
def mIfE (c : M Bool) (a b : M RV) : M RV := fun ε => (c ε).bind fun k ε1 => if k = true then a ε1 else b ε1
theorem opR.rv {C : Ct} {Hf H : Hp} {w : Own} {σ : L2.St} {v : V} {r : RV} (h : opR C Hf σ v r) : relRV C Hf H w σ (fun _ => False) v r := by
  cases r with
  | fro d => exact ⟨fun _ z => z, h⟩
  | new o => exact h.elim
  | at_ i => exact ⟨fun _ z => z, h⟩
  | raw u => exact ⟨fun _ z => z, h⟩
section
variable {C : Ct} {te ta tb tc : TE} {m m1 m2 m3 : M RV} {t u : TT} {c1 c2 : M Bool}
theorem snd_tru (h : Snd C relO te m) : Snd C relB (tTru C.K te) (mTru m) := by
  refine Snd.bind (Rel1 := relO) (t1 := te) (t2 := fun x σ H' Q => ∃ k, TruV C.K x H' k ∧ Q k H') h fun Hf H w σ ε S b a Q E rb P => ?_
  split at P
  · rename_i k e
    obtain ⟨d, e1, e2⟩ := Option.bind_eq_some_iff.mp e
    exact ⟨k, truV E.sub (rb.2.view E e1) e2, P.here E ⟨fun _ z => z, rfl⟩⟩
  · exact P.elim
theorem snd_bool (h : Snd C relRV te m) : Snd C relB (tTest te) (mBl m) := by
  intro Hf H w σ ε Q E P
  refine h Hf H w σ ε _ E ?_
  have P' : PostX C relB Hf H w σ Q ((m ε).bind fun r ε1 => match r with
    | .fro (.bool b) => .ok b ε1
    | _ => .bad) := P
  cases e : m ε with
  | err x ε1 => rw [e] at P'; exact P'
  | bad => rw [e] at P'; exact P'
  | ok r ε1 =>
    rw [e] at P'
    simp only [R.bind] at P'
    intro Hf1 H1 w1 S b E1 st rb
    split at P'
    · rename_i k
      obtain ⟨n, q⟩ := rb
      cases q
      exact ⟨_, rfl, P' Hf1 H1 w1 (fun _ => False) _ E1 (st.out fun x z => z.elim .inl False.elim) ⟨fun _ z => z, rfl⟩⟩
    · exact P'.elim
theorem snd_and (h1 : Snd C relB t c1) (h2 : Snd C relB u c2) : Snd C relB (tAnd t u) (mAnd c1 c2) := by
  refine Snd.bind (Rel1 := relB) (t1 := t) (t2 := fun c σ H1 Q => if c = true then u σ H1 Q else Q false H1) h1 fun Hf H w σ ε S b a Q E rb P => ?_
  obtain ⟨_, rfl⟩ := rb
  cases b with
  | true => exact h2 Hf H w σ ε Q E P
  | false => exact P.here E ⟨fun _ z => z, rfl⟩
theorem snd_or (h1 : Snd C relB t c1) (h2 : Snd C relB u c2) : Snd C relB (tOr t u) (mOr c1 c2) := by
  refine Snd.bind (Rel1 := relB) (t1 := t) (t2 := fun c σ H1 Q => if c = true then Q true H1 else u σ H1 Q) h1 fun Hf H w σ ε S b a Q E rb P => ?_
  obtain ⟨_, rfl⟩ := rb
  cases b with
  | false => exact h2 Hf H w σ ε Q E P
  | true => exact P.here E ⟨fun _ z => z, rfl⟩
theorem snd_not (h1 : Snd C relB t c1) : Snd C relB (tNot t) (mNot c1) := by
  refine Snd.bind (Rel1 := relB) (t1 := t) (t2 := fun c σ H1 Q => Q (!c) H1) h1 fun Hf H w σ ε S b a Q E rb P => ?_
  obtain ⟨_, rfl⟩ := rb
  exact P.here E ⟨fun _ z => z, rfl⟩
theorem snd_ifE (hc : Snd C relB t c1) (h1 : Snd C relRV ta m1) (h2 : Snd C relRV tb m2) : Snd C relRV (tIf t ta tb) (mIfE c1 m1 m2) := by
  refine Snd.bind (Rel1 := relB) (t1 := t) (t2 := fun c σ H1 Q => if c = true then ta σ H1 Q else tb σ H1 Q) hc fun Hf H w σ ε S b a Q E rb P => ?_
  obtain ⟨_, rfl⟩ := rb
  cases b with
  | true => exact h1 Hf H w σ ε Q E P
  | false => exact h2 Hf H w σ ε Q E P
/-! and, or, not as values -/
def mOrV (a b : M RV) : M RV := fun ε => (a ε).bind fun r ε1 => match (view ε1 r).bind truthD with
  | some k => if k = true then .ok r ε1 else b ε1
  | none => .bad
def mAndV (a b : M RV) : M RV := fun ε => (a ε).bind fun r ε1 => match (view ε1 r).bind truthD with
  | some k => if k = true then b ε1 else .ok r ε1
  | none => .bad
def mNotV (a : M RV) : M RV := fun ε => (a ε).bind fun r ε1 => match (view ε1 r).bind truthD with
  | some k => .ok (.fro (.bool (!k))) ε1
  | none => .bad
theorem snd_andV (h1 : Snd C relO ta m1) (h2 : Snd C relRV tb m2) : Snd C relRV (tAndT C.K ta tb) (mAndV m1 m2) := by
  refine Snd.bind (Rel1 := relO) (t1 := ta) (t2 := fun x σ H1 Q => ∃ k, TruV C.K x H1 k ∧ if k = true then tb σ H1 Q else Q x H1) h1 fun Hf H w σ ε S b a Q E rb P => ?_
  split at P
  · rename_i k e
    obtain ⟨d, e1, e2⟩ := Option.bind_eq_some_iff.mp e
    refine ⟨k, truV E.sub (rb.2.view E e1) e2, ?_⟩
    cases k with
    | false => exact P.here E rb.2.rv
    | true => exact h2 Hf H w σ ε Q E P
  · exact P.elim
theorem snd_notV (h1 : Snd C relO ta m1) : Snd C relRV (tNotT C.K ta) (mNotV m1) := by
  refine Snd.bind (Rel1 := relO) (t1 := ta) (t2 := fun x σ H1 (Q : VK) => ∃ k, TruV C.K x H1 k ∧ Q (.bl (!k)) H1) h1 fun Hf H w σ ε S b a Q E rb P => ?_
  split at P
  · rename_i k e
    obtain ⟨d, e1, e2⟩ := Option.bind_eq_some_iff.mp e
    exact ⟨k, truV E.sub (rb.2.view E e1) e2, P.here E ⟨fun _ z => z, .bl _⟩⟩
  · exact P.elim

/-! ### chains: a op b op c -/
def bo (g : D → D → Option Bool) : D → D → Option Out := fun d e => (g d e).map fun b => .val (.bool b)
def mChain (g g' : D → D → Option Bool) (m1 m2 m3 : M RV) : M RV := fun ε => (m1 ε).bind fun a ε1 => (m2 ε1).bind fun b ε2 => match view ε2 a, view ε2 b with
  | some d, some e => (match g d e with
    | some k => if k = true then (m3 ε2).bind fun c ε3 => (match view ε3 b, view ε3 c with
        | some e, some f => outR (bo g' e f) ε3
        | _, _ => .bad) else .ok (.fro (.bool false)) ε2
    | none => .bad)
  | _, _ => .bad
end

/-! ### displays -/
def relDs : Rl (List D) (List V) := fun C Hf H w σ S vs ds => (∀ a, ¬ S a) ∧ DqAll C.K Hf vs ds
def dsNil : M (List D) := fun ε => .ok [] ε
def dsCons (m : M D) (ms : M (List D)) : M (List D) := fun ε => (m ε).bind fun d ε1 => (ms ε1).bind fun ds ε2 => .ok (d :: ds) ε2
def mLst (ms : M (List D)) : M RV := fun ε => (ms ε).bind fun ds ε1 => if ds.length ≤ sizeLine then outR (some (.newl ds)) ε1 else .bad
def mTup (ms : M (List D)) : M RV := fun ε => (ms ε).bind fun ds ε1 => if ds.length ≤ sizeLine then outR (some (.newt ds)) ε1 else .bad
section
variable {C : Ct} {ta : TE} {m : M D} {tr : TA} {ms : M (List D)}
theorem snd_dnil : Snd C relDs tNil dsNil := fun _ _ _ _ _ _ E P => P.here E ⟨fun _ z => z, .nil⟩
theorem snd_dcons (h1 : Snd C relD ta m) (h2 : Snd C relDs tr ms) : Snd C relDs (tCons ta tr) (dsCons m ms) := by
  intro Hf H w σ ε Q E P
  refine h1 Hf H w σ ε _ E ?_
  unfold dsCons at P
  cases e : m ε with
  | err x ε1 => rw [e] at P; exact P
  | bad => rw [e] at P; exact P
  | ok r ε1 =>
    rw [e] at P
    intro Hf1 H1 w1 S b E1 st rb
    refine h2 Hf1 H1 w1 σ ε1 _ E1 ?_
    have P1 := P.step st.noS
    simp only [R.bind] at P1
    cases e2 : ms ε1 with
    | err x ε2 => rw [e2] at P1; exact P1
    | bad => rw [e2] at P1; exact P1
    | ok rs ε2 =>
      rw [e2] at P1
      intro Hf2 H2 w2 S2 bs E2 st2 rbs
      exact P1 Hf2 H2 w2 S2 (b :: bs) E2 st2 ⟨rbs.1, .cons (rb.2.mono st2.mono) rbs.2⟩
theorem snd_lst (h : Snd C relDs tr ms) : Snd C relRV (tLst tr) (mLst ms) := by
  refine Snd.bind (Rel1 := relDs) (t1 := tr) (t2 := fun xs σ H1 (Q : VK) => xs.length ≤ sizeLine ∧ ∀ p, H1 p = none → Q (.ref p) (upd H1 p (.lst xs))) h fun Hf H w σ ε S b a Q E rb P => ?_
  split at P
  · rename_i hz
    exact ⟨by rw [rb.2.length]; exact hz, fun p hp => OutP.of E P p b hp rb.2⟩
  · exact P.elim
theorem snd_tup (h : Snd C relDs tr ms) : Snd C relRV (tTup tr) (mTup ms) := by
  refine Snd.bind (Rel1 := relDs) (t1 := tr) (t2 := fun xs σ H1 (Q : VK) => xs.length ≤ sizeLine ∧ ∀ p, H1 p = none → Q (.ref p) (upd H1 p (.tup xs))) h fun Hf H w σ ε S b a Q E rb P => ?_
  split at P
  · rename_i hz
    exact ⟨by rw [rb.2.length]; exact hz, fun p hp => OutP.of E P p b hp rb.2⟩
  · exact P.elim
end

/-! ### slices -/
def relPI : Rl (Option Int) (Option Int) := fun C Hf H w σ S b a => (∀ x, ¬ S x) ∧ b = a
def mNoPart : M (Option Int) := fun ε => .ok none ε
def mPart (m : M RV) : M (Option Int) := fun ε => (m ε).bind fun r ε1 => match view ε1 r with
  | some (.int i) => .ok (some i) ε1
  | _ => .bad
def SlS (C : Ct) (r : V → Option Int → Option Int → Hp → VK → Prop) (g : D → Option Int → Option Int → Option Out) : Prop :=
  ∀ Hf H x d lo hi Q, Same Hf H → Vw C Hf H x d → OutP C Hf H Q (g d lo hi) → r x lo hi H Q
def mSl (g : D → Option Int → Option Int → Option Out) (m : M RV) (lo hi : M (Option Int)) : M RV := fun ε => (m ε).bind fun a ε1 => (lo ε1).bind fun l ε2 => (hi ε2).bind fun h ε3 => match view ε3 a with
  | some d => outR (g d l h) ε3
  | none => .bad
section
variable {C : Ct} {te : TE} {m : M RV} {tl th : TO} {lo hi : M (Option Int)}
theorem snd_noPart : Snd C relPI tNoPart mNoPart := fun _ _ _ _ _ _ E P => P.here E ⟨fun _ z => z, rfl⟩
theorem snd_part (h : Snd C relO te m) : Snd C relPI (tPart te) (mPart m) := by
  refine Snd.bind (Rel1 := relO) (t1 := te) (t2 := fun x σ H1 (Q : Option Int → Hp → Prop) => ∃ i, x = V.int i ∧ Q (some i) H1) h fun Hf H w σ ε S b a Q E rb P => ?_
  split at P
  · rename_i i e
    have q := rb.2.view E e
    cases q
    exact ⟨i, rfl, P.here E ⟨fun _ z => z, rfl⟩⟩
  · exact P.elim
theorem snd_sl {r : V → Option Int → Option Int → Hp → VK → Prop} {g : D → Option Int → Option Int → Option Out} (hr : SlS C r g) (h : Snd C relO te m) (hl : Snd C relPI tl lo) (hh : Snd C relPI th hi) : Snd C relRV (tSl r te tl th) (mSl g m lo hi) := by
  intro Hf H w σ ε Q E P
  refine h Hf H w σ ε _ E ?_
  unfold mSl at P
  cases e : m ε with
  | err x ε1 => rw [e] at P; exact P
  | bad => rw [e] at P; exact P
  | ok r1 ε1 =>
    rw [e] at P
    intro Hf1 H1 w1 S b E1 st rb
    refine hl Hf1 H1 w1 σ ε1 _ E1 ?_
    have P1 := P.step st.noS
    simp only [R.bind] at P1
    cases e2 : lo ε1 with
    | err x ε2 => rw [e2] at P1; exact P1
    | bad => rw [e2] at P1; exact P1
    | ok r2 ε2 =>
      rw [e2] at P1
      simp only [R.bind] at P1
      intro Hf2 H2 w2 S2 b2 E2 st2 rb2
      obtain ⟨_, rfl⟩ := rb2
      refine hh Hf2 H2 w2 σ ε2 _ E2 ?_
      have P2 := P1.step st2.noS
      cases e3 : hi ε2 with
      | err x ε3 => rw [e3] at P2; exact P2
      | bad => rw [e3] at P2; exact P2
      | ok r3 ε3 =>
        rw [e3] at P2
        intro Hf3 H3 w3 S3 b3 E3 st3 rb3
        obtain ⟨_, rfl⟩ := rb3
        have P3 := P2.step st3.noS
        simp only at P3
        split at P3
        · rename_i d v1
          exact hr Hf3 H3 b d b2 b3 Q E3.sub ((rb.2.mono (st2.mono.trans st3.mono)).view E3 v1) (OutP.of E3 P3)
        · exact P3.elim
end

/-! ### methods of texts -/
def MtS (C : Ct) (r : V → List V → Hp → VK → Prop) (g : D → List D → Option Out) : Prop :=
  ∀ Hf H x xs d ds Q, Same Hf H → Vw C Hf H x d → VwAll C Hf H xs ds → OutP C Hf H Q (g d ds) → r x xs H Q
def mBM (g : D → List D → Option Out) (m : M RV) (ms : M (List RV)) : M RV := fun ε => (m ε).bind fun a ε1 => match a with
  | .fro (.str x) => (ms ε1).bind fun rs ε2 => (match viewAll ε2 rs with
    | some ds => outR (g (.str x) ds) ε2
    | none => .bad)
  | _ => .bad
section
variable {C : Ct} {to : TE} {m : M RV} {tr : TA} {ms : M (List RV)}
theorem snd_bm {r : V → List V → Hp → VK → Prop} {g : D → List D → Option Out} (hr : MtS C r g) (h : Snd C relO to m) (hs : Snd C relOs tr ms) : Snd C relRV (tBM C.K "str" r to tr) (mBM g m ms) := by
  intro Hf H w σ ε Q E P
  refine h Hf H w σ ε _ E ?_
  unfold mBM at P
  cases e : m ε with
  | err x ε1 => rw [e] at P; exact P
  | bad => rw [e] at P; exact P
  | ok r1 ε1 =>
    rw [e] at P
    intro Hf1 H1 w1 S b E1 st rb
    have P1 := P.step st.noS
    simp only [R.bind] at P1
    split at P1
    · rename_i x
      obtain ⟨_, q⟩ := rb
      cases q
      refine ⟨rfl, hs Hf1 H1 w1 σ ε1 _ E1 ?_⟩
      cases e2 : ms ε1 with
      | err x ε2 => rw [e2] at P1; exact P1
      | bad => rw [e2] at P1; exact P1
      | ok rs ε2 =>
        rw [e2] at P1
        intro Hf2 H2 w2 S2 b2 E2 st2 rb2
        have P2 := P1.step st2.noS
        simp only at P2
        split at P2
        · rename_i ds v1
          exact hr Hf2 H2 _ b2 (.str x) ds Q E2.sub (.str x) (rb2.2.view E2 v1) (OutP.of E2 P2)
        · exact P2.elim
    · exact P1.elim
end

/-! ### an owned list changed -/
theorem EnR.setOwn {C : Ct} {Hf H : Hp} {w : Own} {σ : L2.St} {ε : En} (E : EnR C Hf H w σ ε) {i : Nat} {ds : List D} (e : ε[i]? = some (some (.own (.lst ds)))) {p : Addr} (hp : σ[i]? = some (some (.ref p))) {us : List V} {es : List D} (h : DqAll C.K Hf us es) :
    ∃ w', EnR C Hf (upd H p (.lst us)) w' σ (ε.set i (some (.own (.lst es)))) ∧ Stp Hf H (O w) Hf (upd H p (.lst us)) (O w') := by
  obtain ⟨p', vs, h1, h2, h3, h4, h5⟩ := E.ownLst e
  rw [hp] at h1
  cases h1
  have nf : ∀ b o, Hf b = some o → b ≠ p := fun b o q z => by rw [z, h4] at q; cases q
  refine ⟨wSet w i (fun a => a = p), ?_, ⟨Same.refl _, fun a ha na => ⟨?_, rfl, ?_⟩⟩⟩
  · have q := E.put (Hf' := Hf) (H' := upd H p (.lst us)) (S := fun a => a = p) (lt_of_get hp) (Same.refl _) (fun b o q => by rw [upd_ne (nf b o q)]; exact E.sub b o q)
      (fun j a hj hw => upd_ne fun z => hj (E.sep j i a hw ((h5 a).mpr z))) (some (.ref p)) (some (.own (.lst es))) ⟨p, rfl, fun _ => Iff.rfl, us, upd_same, h⟩
      (fun j a hj hw z => hj (E.sep j i a hw ((h5 a).mpr z))) (fun j a _ hw => E.fre j a hw) (fun a z => by rw [z]; exact h4)
      (fun hc v hv => by
        have := E.fix i v hc hv
        rw [hp] at this
        exact Option.some.inj this)
    rw [set_same hp] at q
    exact q
  · exact upd_ne fun z => na ⟨i, (h5 a).mpr z⟩
  · rintro ⟨j, ⟨e1, z⟩ | ⟨n, z⟩⟩
    · exact na ⟨i, (h5 a).mpr z⟩
    · exact na ⟨j, z⟩
/-- xs.append(e) -/
def sAppend (i : Nat) (m : M D) : Sm := fun ε => match ε[i]? with
  | some (some (.own (.lst _))) => (m ε).toS fun d ε1 => (match ε1[i]? with
    | some (some (.own (.lst ds))) => if ds.length < sizeLine then .nx (ε1.set i (some (.own (.lst (ds ++ [d]))))) else .bad
    | _ => .bad)
  | _ => .bad
theorem snds_append {C : Ct} {ta : TE} {m : M D} {i : Nat} (h : Snd C relD ta m) : SndS C (tDrop (tBM C.K "list" rAppend (tVar i) (tCons ta tNil))) (sAppend i m) := by
  intro Hf H w σ ε D E P
  unfold sAppend at P
  split at P
  · rename_i ds0 e0
    obtain ⟨p, vs0, p1, p2, _⟩ := E.ownLst e0
    refine ⟨_, p1, .inl ⟨rfl, vs0, SqL.of p2⟩, ?_⟩
    refine h.toS E P fun d ε1 Hf1 H1 w1 S b _ E1 st rb P1 => ?_
    split at P1
    · rename_i ds e1
      split at P1
      · rename_i hz
        obtain ⟨p', vs, q1, q2, q3, _⟩ := E1.ownLst e1
        rw [p1] at q1
        cases q1
        obtain ⟨w2, E2, st2⟩ := E1.setOwn e1 p1 (q3.append (.cons rb.2 .nil))
        exact ⟨p, vs, b, rfl, rfl, q2, by rw [q3.length]; exact hz, P1 Hf1 _ w2 σ E2 (st.noS.trans st2)⟩
      · exact P1.elim
    · exact P1.elim
  · exact P.elim
/-- xs.extend(ys) -/
def sExtend (i : Nat) (m : M RV) : Sm := fun ε => match ε[i]? with
  | some (some (.own (.lst _))) => (m ε).toS fun r ε1 => (match ε1[i]?, view ε1 r with
    | some (some (.own (.lst ds))), some (.list es) => if ds.length + es.length ≤ sizeLine then .nx (ε1.set i (some (.own (.lst (ds ++ es))))) else .bad
    | _, _ => .bad)
  | _ => .bad
theorem snds_extend {C : Ct} {ta : TE} {m : M RV} {i : Nat} (h : Snd C relO ta m) : SndS C (tDrop (tBM C.K "list" rExtend (tVar i) (tCons ta tNil))) (sExtend i m) := by
  intro Hf H w σ ε D E P
  unfold sExtend at P
  split at P
  · rename_i ds0 e0
    obtain ⟨p, vs0, p1, p2, _⟩ := E.ownLst e0
    refine ⟨_, p1, .inl ⟨rfl, vs0, SqL.of p2⟩, ?_⟩
    refine h.toS E P fun r ε1 Hf1 H1 w1 S b _ E1 st rb P1 => ?_
    split at P1
    · rename_i ds es e1 e2
      split at P1
      · rename_i hz
        obtain ⟨p', vs, q1, q2, q3, _⟩ := E1.ownLst e1
        rw [p1] at q1
        cases q1
        obtain ⟨pb, us, rfl, u1, u2⟩ := rb.2.view E1 e2
        obtain ⟨w2, E2, st2⟩ := E1.setOwn e1 p1 (q3.append u2)
        exact ⟨p, pb, vs, us, rfl, rfl, q2, u1, by rw [q3.length, u2.length]; exact hz, P1 Hf1 _ w2 σ E2 (st.noS.trans st2)⟩
      · exact P1.elim
    · exact P1.elim
  · exact P.elim
/-- xs[k] = e -/
def sSetItem (i : Nat) (mk : M RV) (m : M D) : Sm := fun ε => (m ε).toS fun d ε1 => match ε1[i]? with
  | some (some (.own (.lst _))) => (mk ε1).toS fun r ε2 => (match ε2[i]?, view ε2 r with
    | some (some (.own (.lst ds))), some (.int k) => (match ixN ds.length k with
      | some j => .nx (ε2.set i (some (.own (.lst (ds.set j d)))))
      | none => .bad)
    | _, _ => .bad)
  | _ => .bad
theorem snds_setItem {C : Ct} {te tk : TE} {m : M D} {mk : M RV} {i : Nat} (h : Snd C relD te m) (hk : Snd C relO tk mk) : SndS C (tAsg te (gSub (tVar i) tk rSetL)) (sSetItem i mk m) := by
  intro Hf H w σ ε D E P
  refine h.toS E P fun d ε1 Hf1 H1 w1 S b _ E1 st rb P1 => ?_
  split at P1
  · rename_i ds0 e0
    obtain ⟨p, vs0, p1, p2, _⟩ := E1.ownLst e0
    refine ⟨_, p1, ?_⟩
    refine hk.toS E1 (P1.step st.noS) fun r ε2 Hf2 H2 w2 S2 b2 _ E2 st2 rb2 P2 => ?_
    split at P2
    · rename_i ds k e1 e2
      split at P2
      · rename_i j ej
        obtain ⟨p', vs, q1, q2, q3, _⟩ := E2.ownLst e1
        rw [p1] at q1
        cases q1
        have qk := rb2.2.view E2 e2
        cases qk
        obtain ⟨w3, E3, st3⟩ := E2.setOwn e1 p1 (DqAll.set (rb.2.mono st2.mono) j q3)
        exact ⟨p, vs, k, j, rfl, rfl, q2, by rw [q3.length]; exact ej, P2 Hf2 _ w3 σ E3 (st2.noS.trans st3)⟩
      · exact P2.elim
    · exact P2.elim
  · exact P1.elim
end M3

namespace M3
open PySem PySem.Spec L2
open PyProof.Rows hiding St

/-! ### calls of defs -/
/-- a def's mirror: from its parameters' slots to a result and the slots behind it -/
def spM (K : PySem.W.Frag) (n : Nat) (F : M RV) : Sp := fun vs H Q E => vs.length = n ∧ ∃ Hf w ε, EnR ⟨K, [], [], noW⟩ Hf H w (vs.map some) ε ∧ PostX ⟨K, [], [], fun c d _ H' => E c d H'⟩ relRV Hf H w (vs.map some) Q (F ε)
def argSV (ε : En) : RV → Option SV
  | .fro d => some (.fro d)
  | .raw v => some (.raw v)
  | .at_ i => match ε[i]? with
    | some (some s) => some s
    | _ => none
  | .new _ => none
def argsE (ε : En) : List RV → Option En
  | [] => some []
  | r :: rs => match argSV ε r, argsE ε rs with
    | some s, some εc => some (some s :: εc)
    | _, _ => none
def ats : List RV → List Nat
  | [] => []
  | .at_ i :: rs => i :: ats rs
  | .fro _ :: rs => ats rs
  | .raw _ :: rs => ats rs
  | .new _ :: rs => ats rs
def wb : List RV → En → En → En
  | .at_ i :: rs, e :: εc, ε => (wb rs εc ε).set i e
  | .fro _ :: rs, _ :: εc, ε => wb rs εc ε
  | .raw _ :: rs, _ :: εc, ε => wb rs εc ε
  | .new _ :: rs, _ :: εc, ε => wb rs εc ε
  | _, _, ε => ε
def mCall (n : Nat) (F : M RV) (ms : M (List RV)) : M RV := fun ε => (ms ε).bind fun rs ε1 =>
  if rs.length = n ∧ (ats rs).Nodup then
    match argsE ε1 rs with
    | some εc => (match F εc with
      | .ok (.at_ _) _ => .bad
      | .ok (.fro d) εo => if εo.length = n then .ok (.fro d) (wb rs εo ε1) else .bad
      | .ok (.new o) εo => if εo.length = n then .ok (.new o) (wb rs εo ε1) else .bad
      | .ok (.raw v) εo => if εo.length = n then .ok (.raw v) (wb rs εo ε1) else .bad
      | .err x εo => if εo.length = n then .err x (wb rs εo ε1) else .bad
      | .bad => .bad)
    | none => .bad
  else .bad
theorem opRs.length {C : Ct} {Hf : Hp} {σ : L2.St} : ∀ {vs : List V} {rs : List RV}, opRs C Hf σ vs rs → vs.length = rs.length
  | _, _, .nil => rfl
  | _, _, .cons _ b => congrArg Nat.succ (opRs.length b)
theorem opRs.get {C : Ct} {Hf : Hp} {σ : L2.St} : ∀ {vs : List V} {rs : List RV} {j : Nat} {r : RV}, opRs C Hf σ vs rs → rs[j]? = some r → ∃ v, vs[j]? = some v ∧ opR C Hf σ v r
  | _, _, _, _, .nil, e => by simp at e
  | _, _, 0, _, .cons a _, e => by simp at e; subst e; exact ⟨_, rfl, a⟩
  | _, _, j + 1, r, .cons _ b, e => by
    obtain ⟨v, h1, h2⟩ := opRs.get (j := j) (r := r) b (by simpa using e)
    exact ⟨v, by simpa using h1, h2⟩
theorem argsE_len {ε : En} : ∀ {rs : List RV} {εc : En}, argsE ε rs = some εc → εc.length = rs.length
  | [], _, e => by cases e; rfl
  | r :: rs, εc, e => by
    unfold argsE at e
    split at e
    · rename_i s es e1 e2
      cases e
      exact congrArg Nat.succ (argsE_len e2)
    · cases e
theorem argsE_get {ε : En} : ∀ {rs : List RV} {εc : En} {j : Nat} {r : RV}, argsE ε rs = some εc → rs[j]? = some r → ∃ s, argSV ε r = some s ∧ εc[j]? = some (some s)
  | [], _, _, _, _, e => by simp at e
  | r0 :: rs, εc, j, r, e, h => by
    unfold argsE at e
    split at e
    · rename_i s es e1 e2
      cases e
      cases j with
      | zero => simp at h; subst h; exact ⟨s, e1, rfl⟩
      | succ j =>
        obtain ⟨s', h1, h2⟩ := argsE_get e2 (by simpa using h)
        exact ⟨s', h1, by simpa using h2⟩
    · cases e
theorem mem_ats : ∀ {rs : List RV} {j i : Nat}, rs[j]? = some (RV.at_ i) → i ∈ ats rs
  | [], _, _, e => by simp at e
  | r :: rs, 0, i, e => by
    simp at e; subst e; exact List.mem_cons_self
  | r :: rs, j + 1, i, e => by
    have q := mem_ats (rs := rs) (j := j) (i := i) (by simpa using e)
    cases r <;> first | exact q | exact List.mem_cons_of_mem _ q
theorem ats_inj : ∀ {rs : List RV} {j k i : Nat}, (ats rs).Nodup → rs[j]? = some (RV.at_ i) → rs[k]? = some (RV.at_ i) → j = k
  | [], _, _, _, _, e, _ => by simp at e
  | r :: rs, 0, 0, i, _, _, _ => rfl
  | r :: rs, 0, k + 1, i, nd, e, e' => by
    simp at e; subst e
    have q := mem_ats (rs := rs) (j := k) (i := i) (by simpa using e')
    exact absurd q (List.nodup_cons.mp nd).1
  | r :: rs, j + 1, 0, i, nd, e, e' => by
    simp at e'; subst e'
    have q := mem_ats (rs := rs) (j := j) (i := i) (by simpa using e)
    exact absurd q (List.nodup_cons.mp nd).1
  | r :: rs, j + 1, k + 1, i, nd, e, e' => by
    have nd' : (ats rs).Nodup := by cases r <;> first | exact nd | exact (List.nodup_cons.mp nd).2
    exact congrArg Nat.succ (ats_inj nd' (by simpa using e) (by simpa using e'))
theorem wb_len : ∀ (rs : List RV) (εc ε : En), (wb rs εc ε).length = ε.length
  | [], _, _ => by cases ‹En› <;> rfl
  | r :: rs, [], ε => by cases r <;> rfl
  | r :: rs, e :: εc, ε => by
    cases r <;> first
      | exact wb_len rs εc ε
      | (show ((wb rs εc ε).set _ e).length = _; rw [List.length_set]; exact wb_len rs εc ε)
theorem wb_not : ∀ {rs : List RV} {εc ε : En} {i : Nat}, (∀ j : Nat, rs[j]? ≠ some (RV.at_ i)) → (wb rs εc ε)[i]? = ε[i]?
  | [], εc, ε, i, _ => by cases εc <;> rfl
  | r :: rs, [], ε, i, _ => by cases r <;> rfl
  | r :: rs, e :: εc, ε, i, h => by
    have ih := wb_not (rs := rs) (εc := εc) (ε := ε) (i := i) fun j => by have := h (j + 1); simpa using this
    cases r <;> first
      | exact ih
      | (rename_i k
         have hk : k ≠ i := fun z => by have := h 0; rw [z] at this; simp at this
         show ((wb rs εc ε).set k e)[i]? = _
         rw [List.getElem?_set_ne hk]
         exact ih)
theorem wb_at : ∀ {rs : List RV} {εc ε : En} {i j : Nat} {e : Option SV}, (ats rs).Nodup → rs[j]? = some (RV.at_ i) → εc[j]? = some e → i < ε.length → (wb rs εc ε)[i]? = some e
  | [], _, _, _, _, _, _, h, _, _ => by simp at h
  | r :: rs, [], _, _, _, _, _, _, h, _ => by simp at h
  | r :: rs, e0 :: εc, ε, i, 0, e, nd, h, h', hi => by
    simp at h h'; subst h; subst h'
    show ((wb rs εc ε).set i e0)[i]? = _
    rw [List.getElem?_set_self (by rw [wb_len]; exact hi)]
  | r :: rs, e0 :: εc, ε, i, j + 1, e, nd, h, h', hi => by
    have nd' : (ats rs).Nodup := by cases r <;> first | exact nd | exact (List.nodup_cons.mp nd).2
    have ih := wb_at (rs := rs) (εc := εc) (ε := ε) (i := i) (j := j) (e := e) nd' (by simpa using h) (by simpa using h') hi
    cases r <;> first
      | exact ih
      | (rename_i k
         have hk : k ≠ i := fun z => by
           have q := mem_ats (rs := rs) (j := j) (i := i) (by simpa using h)
           rw [z] at nd
           exact absurd q (List.nodup_cons.mp nd).1
         show ((wb rs εc ε).set k e0)[i]? = _
         rw [List.getElem?_set_ne hk]
         exact ih)

section
variable {C : Ct} {Hf H Hf' H' : Hp} {w : Own} {σ : L2.St} {ε εc εo : En} {vs : List V} {rs : List RV}
def wCall (rs : List RV) (w : Own) : Own := fun j a => ∃ i, rs[j]? = some (RV.at_ i) ∧ w i a
def wBack (rs : List RV) (wc w : Own) : Own := fun i a => (∃ j : Nat, rs[j]? = some (RV.at_ i) ∧ wc j a) ∨ ((∀ j : Nat, rs[j]? ≠ some (RV.at_ i)) ∧ w i a)
theorem EnR.toCall {W : WX} (E : EnR C Hf H w σ ε) (h : opRs C Hf σ vs rs) (nd : (ats rs).Nodup) (e : argsE ε rs = some εc) : EnR ⟨C.K, [], [], W⟩ Hf H (wCall rs w) (vs.map some) εc where
  sub := E.sub
  slot := fun j => by
    cases er : rs[j]? with
    | none =>
      have h1 : rs.length ≤ j := List.getElem?_eq_none_iff.mp er
      rw [List.getElem?_eq_none (by rw [List.length_map, h.length]; exact h1), List.getElem?_eq_none (by rw [argsE_len e]; exact h1)]
      exact fun a ⟨i, z, _⟩ => by rw [er] at z; cases z
    | some r =>
      obtain ⟨v, hv, ho⟩ := h.get er
      obtain ⟨s, hs, hc⟩ := argsE_get e er
      rw [List.getElem?_map, hv, hc]
      cases r with
      | fro d => cases hs; exact ⟨fun a ⟨i, z, _⟩ => (by rw [er] at z; cases z), v, rfl, ho⟩
      | raw u => cases hs; cases ho; exact ⟨fun a ⟨i, z, _⟩ => (by rw [er] at z; cases z), rfl⟩
      | new o => exact ho.elim
      | at_ i =>
        have hs' : (match ε[i]? with
          | some (some s) => some s
          | _ => none) = some s := hs
        have hσ : σ[i]? = some (some v) := ho
        split at hs'
        · rename_i s' e'
          cases hs'
          have q := E.slot i
          rw [e', hσ] at q
          refine q.congr fun a => ⟨fun ⟨i', z, y⟩ => ?_, fun z => ⟨i, er, z⟩⟩
          rw [er] at z
          cases z
          exact y
        · cases hs'
  sep := fun j k a ⟨i, h1, h2⟩ ⟨i', h3, h4⟩ => by
    have := E.sep i i' a h2 h4
    subst this
    exact ats_inj nd h1 h3
  fre := fun j a ⟨i, _, h2⟩ => E.fre i a h2
  len := by rw [List.length_map, h.length, argsE_len e]
  fix := fun i v h1 _ => by cases h1
theorem EnR.ofCall {W : WX} (E : EnR C Hf H w σ ε) (h : opRs C Hf σ vs rs) (nd : (ats rs).Nodup) (hl : εo.length = rs.length) {wc : Own} {S : Addr → Prop} (Ec : EnR ⟨C.K, [], [], W⟩ Hf' H' wc (vs.map some) εo) (st : Stp Hf H (O (wCall rs w)) Hf' H' (fun x => O wc x ∨ S x)) :
    EnR C Hf' H' (wBack rs wc w) σ (wb rs εo ε) ∧ Stp Hf H (O w) Hf' H' (fun x => O (wBack rs wc w) x ∨ S x) ∧ ((∀ i a, wc i a → ¬ S a) → ∀ i a, wBack rs wc w i a → ¬ S a) := by
  have aside : ∀ i a, (∀ j : Nat, rs[j]? ≠ some (RV.at_ i)) → w i a → H' a = H a ∧ Hf' a = Hf a ∧ ¬ (O wc a ∨ S a) := fun i a hn hw =>
    st.rest a (E.there hw) fun ⟨j, i', h1, h2⟩ => by
      have := E.sep i i' a hw h2
      subst this
      exact hn j h1
  refine ⟨⟨Ec.sub, fun i => ?_, fun i k a h1 h2 => ?_, fun i a h1 => ?_, ?_, E.fix⟩, ⟨st.mono, fun a ha na => ?_⟩, fun hd i a hw z => ?_⟩
  · by_cases hx : ∃ j : Nat, rs[j]? = some (RV.at_ i)
    · obtain ⟨j, hj⟩ := hx
      obtain ⟨v, hv, ho⟩ := h.get hj
      have hσ : σ[i]? = some (some v) := ho
      have hjl : j < εo.length := by rw [hl]; exact lt_of_get hj
      have he : εo[j]? = some εo[j] := List.getElem?_eq_getElem hjl
      rw [wb_at nd hj he (by rw [← E.len]; exact lt_of_get hσ), hσ]
      have q := Ec.slot j
      rw [List.getElem?_map, hv, he] at q
      refine SlotR.congr (S := wc j) (fun a => ⟨fun z => ?_, fun z => .inl ⟨j, hj, z⟩⟩) q
      rcases z with ⟨k, hk, z⟩ | ⟨hn, _⟩
      · rw [ats_inj nd hj hk]; exact z
      · exact absurd hj (hn j)
    · have hn : ∀ j : Nat, rs[j]? ≠ some (RV.at_ i) := fun j z => hx ⟨j, z⟩
      rw [wb_not hn]
      refine SlotR.congr (S := w i) (fun a => ⟨fun z => ?_, fun z => .inr ⟨hn, z⟩⟩) ((E.slot i).keep st.mono fun a hw => (aside i a hn hw).1)
      rcases z with ⟨k, hk, _⟩ | ⟨_, z⟩
      · exact absurd hk (hn k)
      · exact z
  · rcases h1 with ⟨j, e1, h1⟩ | ⟨n1, h1⟩ <;> rcases h2 with ⟨j', e2, h2⟩ | ⟨n2, h2⟩
    · have := Ec.sep j j' a h1 h2
      subst this
      rw [e1] at e2
      cases e2
      rfl
    · exact absurd (.inl ⟨j, h1⟩) (aside k a n2 h2).2.2
    · exact absurd (.inl ⟨j', h2⟩) (aside i a n1 h1).2.2
    · exact E.sep i k a h1 h2
  · rcases h1 with ⟨j, e1, h1⟩ | ⟨n1, h1⟩
    · exact Ec.fre j a h1
    · rw [(aside i a n1 h1).2.1]; exact E.fre i a h1
  · rw [wb_len]; exact E.len
  · obtain ⟨r1, r2, r3⟩ := st.rest a ha fun ⟨j, i, _, h2⟩ => na ⟨i, h2⟩
    refine ⟨r1, r2, fun z => z.elim (fun ⟨i, q⟩ => ?_) fun z => r3 (.inr z)⟩
    rcases q with ⟨j, _, q⟩ | ⟨_, q⟩
    · exact r3 (.inl ⟨j, q⟩)
    · exact na ⟨i, q⟩
  · rcases hw with ⟨j, _, q⟩ | ⟨hn, q⟩
    · exact hd j a q z
    · exact (aside i a hn q).2.2 (.inr z)
theorem snd_call {tr : TA} {ms : M (List RV)} {n : Nat} {F : M RV} {E : L2.St → XK} (hE : ∀ cls d σ H, C.W cls d σ H → E σ cls d H) (h : Snd C relOs tr ms) : Snd C relRV (fun σ H Q => tr σ H fun vs H1 => spM C.K n F vs H1 Q (E σ)) (mCall n F ms) :=
  Snd.bind h fun Hf H w σ ε S vs rs Q En0 rb P => by
    split at P
    · rename_i hn
      obtain ⟨hlen, nd⟩ := hn
      split at P
      · rename_i εc ec
        refine ⟨rb.2.length.trans hlen, Hf, wCall rs w, εc, En0.toCall rb.2 nd ec, ?_⟩
        split at P
        · exact P.elim
        · rename_i d εo eF
          split at P
          · rename_i hl
            rw [eF]
            intro Hf' H' wc S' v Ec st rv
            obtain ⟨E1, st1, _⟩ := En0.ofCall rb.2 nd (hl.trans hlen.symm) Ec st
            exact P Hf' H' _ S' v E1 st1 rv
          · exact P.elim
        · rename_i o εo eF
          split at P
          · rename_i hl
            rw [eF]
            intro Hf' H' wc S' v Ec st rv
            obtain ⟨E1, st1, dj⟩ := En0.ofCall rb.2 nd (hl.trans hlen.symm) Ec st
            obtain ⟨p, r1, r2, r3, r4⟩ := rv
            exact P Hf' H' _ S' v E1 st1 ⟨p, r1, r2, r3, dj r4⟩
          · exact P.elim
        · rename_i u εo eF
          split at P
          · rename_i hl
            rw [eF]
            intro Hf' H' wc S' v Ec st rv
            obtain ⟨E1, st1, _⟩ := En0.ofCall rb.2 nd (hl.trans hlen.symm) Ec st
            exact P Hf' H' _ S' v E1 st1 rv
          · exact P.elim
        · rename_i x εo eF
          split at P
          · rename_i hl
            rw [eF]
            intro Hf' H' wc cls d Ec st rx
            obtain ⟨E1, st1, _⟩ := En0.ofCall (S := fun _ => False) rb.2 nd (hl.trans hlen.symm) Ec (st.out fun _ z => z.elim id False.elim)
            exact hE cls d σ H' (P Hf' H' _ cls d E1 (st1.out fun _ z => .inl z) rx)
          · exact P.elim
        · exact P.elim
      · exact P.elim
    · exact P.elim
end

/-! ### a def from its body -/
def outE (own : List Nat) (ε' : En) : Nat → En → En
  | _, [] => []
  | i, e :: es => (if own.contains i = true then ε'.getD i none else e) :: outE own ε' (i + 1) es
def parOk (own : List Nat) : Nat → En → Bool
  | _, [] => true
  | i, some (.own _) :: es => own.contains i && parOk own (i + 1) es
  | i, some (.fro _) :: es => parOk own (i + 1) es
  | i, some (.raw _) :: es => parOk own (i + 1) es
  | i, some (.scr _) :: es => parOk own (i + 1) es
  | _, none :: _ => false
def fnF (own : List Nat) (N : Nat) (body : Sm) : M RV := fun εc =>
  if parOk own 0 εc = true ∧ εc.length ≤ N then
    match body (εc ++ List.replicate (N - εc.length) none) with
    | .nx ε' => .ok (.fro .none) (outE own ε' 0 εc)
    | .rt (.fro d) ε' => .ok (.fro d) (outE own ε' 0 εc)
    | .rt (.raw v) ε' => .ok (.raw v) (outE own ε' 0 εc)
    | .rt (.new o) ε' => .ok (.new o) (outE own ε' 0 εc)
    | .rt (.at_ i) ε' => if i < εc.length then .bad else (match ε'[i]? with
      | some (some (.own o)) => .ok (.new o) (outE own ε' 0 εc)
      | some (some (.fro d)) => .ok (.fro d) (outE own ε' 0 εc)
      | _ => .bad)
    | .err x ε' => .err x (outE own ε' 0 εc)
    | _ => .bad
  else .bad
theorem outE_len {own : List Nat} {ε' : En} : ∀ (i : Nat) (es : En), (outE own ε' i es).length = es.length
  | _, [] => rfl
  | i, e :: es => congrArg Nat.succ (outE_len (i + 1) es)
theorem outE_get {own : List Nat} {ε' : En} : ∀ (i j : Nat) (es : En), (outE own ε' i es)[j]? = es[j]?.map fun e => if own.contains (i + j) = true then ε'.getD (i + j) none else e
  | _, _, [] => by simp [outE]
  | i, 0, e :: es => by simp [outE]
  | i, j + 1, e :: es => by
    show (outE own ε' (i + 1) es)[j]? = _
    rw [outE_get (i + 1) j es]
    have : i + 1 + j = i + (j + 1) := by omega
    rw [this]
    simp
theorem parOk_get {own : List Nat} : ∀ (i j : Nat) (es : En) (o : OV), parOk own i es = true → es[j]? = some (some (.own o)) → own.contains (i + j) = true
  | _, _, [], _, _, h => by simp at h
  | i, 0, e :: es, o, h, h' => by
    simp at h'
    subst h'
    unfold parOk at h
    simp at h ⊢
    exact h.1
  | i, j + 1, e :: es, o, h, h' => by
    have hp : parOk own (i + 1) es = true := by
      unfold parOk at h
      split at h
      · simp at *
      · rename_i q; cases q; exact (Bool.and_eq_true_iff.mp h).2
      · rename_i q; cases q; exact h
      · rename_i q; cases q; exact h
      · rename_i q; cases q; exact h
      · cases h
    have := parOk_get (i + 1) j es o hp (by simpa using h')
    have e2 : i + 1 + j = i + (j + 1) := by omega
    rw [← e2]; exact this
theorem start_get {N : List Str} {vs : List V} {i : Nat} (h : i < vs.length) : (L2.start N vs)[i]? = vs[i]?.map some := by
  unfold L2.start
  rw [List.getElem?_append_left (by simpa using h), List.getElem?_map]
section
variable {K : PySem.W.Frag} {W : WX} {own : List Nat} {Hf H Hf' H' : Hp} {w w' : Own} {εc ε' : En} {vs : List V} {σ' : L2.St} {N : List Str}
theorem EnR.begin {W' : WX} (E : EnR ⟨K, [], [], W'⟩ Hf H w (vs.map some) εc) (hN : vs.length ≤ N.length) : EnR ⟨K, own, vs, W⟩ Hf H w (L2.start N vs) (εc ++ List.replicate (N.length - εc.length) none) := by
  have hl : vs.length = εc.length := by have := E.len; rw [List.length_map] at this; exact this
  refine ⟨E.sub, fun i => ?_, E.sep, E.fre, ?_, fun i v h1 h2 => ?_⟩
  · by_cases hi : i < vs.length
    · rw [start_get hi, List.getElem?_append_left (by omega)]
      have q := E.slot i
      rw [List.getElem?_map] at q
      exact q
    · have q := E.slot i
      rw [List.getElem?_eq_none (by rw [List.length_map]; omega), List.getElem?_eq_none (by omega)] at q
      rw [List.getElem?_append_right (by omega), List.getElem?_replicate]
      by_cases h2 : i - εc.length < N.length - εc.length
      · rw [if_pos h2]; exact q
      · rw [if_neg h2]; exact q
  · unfold L2.start
    rw [List.length_append, List.length_append, List.length_map, List.length_replicate, List.length_replicate]
    omega
  · have hi : i < vs.length := lt_of_get h2
    rw [start_get hi, h2]; rfl
def wOut (own : List Nat) (n : Nat) (w' : Own) : Own := fun i a => i < n ∧ own.contains i = true ∧ w' i a
theorem EnR.finish {W' : WX} (E : EnR ⟨K, [], [], W'⟩ Hf H w (vs.map some) εc) (hp : parOk own 0 εc = true) (E' : EnR ⟨K, own, vs, W⟩ Hf' H' w' σ' ε') (sm : Same Hf Hf') : EnR ⟨K, [], [], W'⟩ Hf' H' (wOut own vs.length w') (vs.map some) (outE own ε' 0 εc) := by
  have hl : vs.length = εc.length := by have := E.len; rw [List.length_map] at this; exact this
  refine ⟨E'.sub, fun i => ?_, fun i j a h1 h2 => E'.sep i j a h1.2.2 h2.2.2, fun i a h => E'.fre i a h.2.2, by rw [outE_len]; exact E.len, fun i v h1 _ => by cases h1⟩
  rw [outE_get, Nat.zero_add]
  by_cases hi : i < vs.length
  · have hc : εc[i]? = some εc[i] := List.getElem?_eq_getElem (by omega)
    have hv : vs[i]? = some vs[i] := List.getElem?_eq_getElem hi
    rw [hc, List.getElem?_map, hv, Option.map_some, Option.map_some]
    by_cases ho : own.contains i = true
    · rw [if_pos ho]
      have q := E'.slot i
      have hf := E'.fix i vs[i] ho hv
      rw [hf] at q
      have hi' : i < ε'.length := by rw [← E'.len]; exact lt_of_get hf
      rw [List.getElem?_eq_getElem hi'] at q
      rw [show ε'.getD i none = ε'[i] by simp [List.getD, hi']]
      exact q.congr fun a => ⟨fun z => z.2.2, fun z => ⟨hi, ho, z⟩⟩
    · rw [if_neg ho]
      have q := E.slot i
      rw [hc, List.getElem?_map, hv, Option.map_some] at q
      have nn : ∀ a, ¬ wOut own vs.length w' i a := fun a z => ho z.2.1
      cases es : εc[i] with
      | none => exact nn
      | some s =>
        rw [es] at q hc
        cases s with
        | fro d => obtain ⟨_, v, q1, q2⟩ := q; exact ⟨nn, v, q1, q2.mono sm⟩
        | raw v => exact ⟨nn, q.2⟩
        | scr ns => obtain ⟨q, p0, q1, q2⟩ := q; exact ⟨nn, p0, q1, sm.seq q2⟩
        | own o => exact absurd (by have := parOk_get 0 i εc o hp hc; rwa [Nat.zero_add] at this) ho
  · rw [List.getElem?_eq_none (show εc.length ≤ i by omega), List.getElem?_eq_none (by rw [List.length_map]; omega)]
    exact fun a z => hi z.1
theorem body_fn {body : Sm} {t : TS} {Q : VK} {E0 : XK} (hb : SndS ⟨K, own, vs, fun c d _ H' => E0 c d H'⟩ t body) (E : EnR ⟨K, [], [], noW⟩ Hf H w (vs.map some) εc)
    (P : PostX ⟨K, [], [], fun c d _ H' => E0 c d H'⟩ relRV Hf H w (vs.map some) Q (fnF own N.length body εc)) : t { nx := fun _ H' => Q .non H', rt := Q } (L2.start N vs) H := by
  have hl : vs.length = εc.length := by have := E.len; rw [List.length_map] at this; exact this
  unfold fnF at P
  split at P
  · rename_i hp
    obtain ⟨hp, hz⟩ := hp
    refine hb Hf H w (L2.start N vs) _ _ (E.begin (by omega)) ?_
    have sub : ∀ {w' : Own} {x : Addr}, O (wOut own vs.length w') x → O w' x := fun ⟨i, z⟩ => ⟨i, z.2.2⟩
    split at P
    · rename_i ε' eb
      rw [eb]
      exact fun Hf' H' w' σ' E' st => P Hf' H' _ (fun _ => False) .non ((E.finish hp E' st.mono).recast rfl rfl rfl) (st.out fun x z => z.elim sub False.elim) ⟨fun _ z => z, .non⟩
    · rename_i d ε' eb
      rw [eb]
      exact fun Hf' H' w' σ' S v E' st rv => P Hf' H' _ S v ((E.finish hp E' st.mono).recast rfl rfl rfl) (st.out fun x z => z.elim (fun y => .inl (sub y)) .inr) rv
    · rename_i d ε' eb
      rw [eb]
      exact fun Hf' H' w' σ' S v E' st rv => P Hf' H' _ S v ((E.finish hp E' st.mono).recast rfl rfl rfl) (st.out fun x z => z.elim (fun y => .inl (sub y)) .inr) rv
    · rename_i o ε' eb
      rw [eb]
      intro Hf' H' w' σ' S v E' st rv
      obtain ⟨p, r1, r2, r3, r4⟩ := rv
      exact P Hf' H' _ S v ((E.finish hp E' st.mono).recast rfl rfl rfl) (st.out fun x z => z.elim (fun y => .inl (sub y)) .inr) ⟨p, r1, r2, r3, fun i a hw => r4 i a hw.2.2⟩
    · rename_i i ε' eb
      rw [eb]
      intro Hf' H' w' σ' S v E' st rv
      obtain ⟨n, s1⟩ := rv
      split at P
      · exact P.elim
      · rename_i hi
        split at P
        · rename_i o e1
          have q := E'.slot i
          rw [e1, s1] at q
          obtain ⟨p, q1, q2⟩ := q
          cases q1
          refine P Hf' H' _ (w' i) (.ref p) ((E.finish hp E' st.mono).recast rfl rfl rfl) (st.out fun x z => z.elim (fun y => .inl (sub y)) fun y => .inl ⟨i, y⟩) ⟨p, rfl, q2, fun a z => E'.fre i a z, fun j a hw z => ?_⟩
          have := E'.sep j i a hw.2.2 z
          have := hw.1
          omega
        · rename_i d e1
          have q := E'.slot i
          rw [e1, s1] at q
          obtain ⟨q0, u, q1, q2⟩ := q
          cases q1
          exact P Hf' H' _ (fun _ => False) v ((E.finish hp E' st.mono).recast rfl rfl rfl) (st.out fun x z => z.elim (fun y => .inl (sub y)) False.elim) ⟨fun _ z => z, q2⟩
        · exact P.elim
    · rename_i x ε' eb
      rw [eb]
      exact fun Hf' H' w' σ' cls d E' st rx => P Hf' H' _ cls d ((E.finish hp E' st.mono).recast rfl rfl rfl) (st.out fun x z => sub z) rx
    · exact P.elim
  · exact P.elim
end
end M3

namespace M3
open PySem PySem.Spec L2
open PyProof.Rows hiding St

/-! ### contracts: as HandS's, and no guard stands -/
structure FnG (P : Program) (w : World) (K : PySem.W.Frag) (mg : Str → Option Value) (base : Heap) (CX : CXT) (k : Nat) (f : Addr) (fd : FuncData) (ps : List Str) (sp : Sp) : Prop where
  len : ∀ vs H Q E, sp vs H Q E → vs.length = ps.length
  run : ∀ (A : Around) (outer : List Env) (s : Shared) (H : Hp) (args : Args) (us : List Value) (vs : List V) (Q : VK) (E : XK), Room k A → A.guards = some [] → Env0 P w K mg base A outer s H → BindsTo s fd args (ps.zip us) → Vals vs us → sp vs H Q E →
    codeAny (model P w) A (.call (.ref f) args) (CR CX outer P w H s Q E) s
theorem FnG.mono {P : Program} {w : World} {K : PySem.W.Frag} {mg : Str → Option Value} {base : Heap} {CX : CXT} {j k : Nat} {f : Addr} {fd : FuncData} {ps : List Str} {sp : Sp} (F : FnG P w K mg base CX j f fd ps sp) (h : j ≤ k) :
    FnG P w K mg base CX k f fd ps sp := ⟨F.len, fun A outer s H args us vs Q E hr => F.run A outer s H args us vs Q E (hr.mono h)⟩
theorem FnG.imp {P : Program} {w : World} {K : PySem.W.Frag} {mg : Str → Option Value} {base : Heap} {CX : CXT} {k : Nat} {f : Addr} {fd : FuncData} {ps : List Str} {sp sp' : Sp} (F : FnG P w K mg base CX k f fd ps sp)
    (h : ∀ vs H Q E, sp' vs H Q E → sp vs H Q E) : FnG P w K mg base CX k f fd ps sp' :=
  ⟨fun vs H Q E q => F.len vs H Q E (h _ _ _ _ q), fun A outer s H args us vs Q E hr hg he hb hv hs => F.run A outer s H args us vs Q E hr hg he hb hv (h _ _ _ _ hs)⟩

section
variable {X : Cx} {CX : CXT} {k : Nat} {f C : Addr} {fd : FuncData} {ps : List Str} {sp : Sp} {dvs : List V} {ds : List Value} {E : L2.St → XK} {x m : Str} {p pos apos : Pos} {e o : Expr} {es : List Expr} {ta : TE} {t : TA}
theorem run_fnG {pins : List (Addr × Obj)} {σ : L2.St} {H : Hp} {s : Shared} {Q : VK} {us : List Value} {vs : List V} (F : FnG X.prog X.w X.K X.mg X.base CX k f fd ps sp) (hr : Room k X.A) (hg : X.A.guards = some []) (hb : Binds X.K fd ps ds) (hd : Vals dvs ds) (hx : PassesAt CX X σ (E σ))
    (I : Inv X pins σ H s) (r : Vals vs us) (says : sp (vs ++ dvs) H Q (E σ)) : wpAny (model X.prog X.w) X.A (call (.ref f) us) (EP X pins σ Q) X.xe s := by
  have all : Vals (vs ++ dvs) (us ++ ds) := r.append hd
  have bound := hb s us I.kIn (all.length.symm.trans (F.len _ _ _ _ says))
  refine wpAny_call (codeAny_mono (F.run X.A X.stack s H ⟨us, []⟩ _ _ Q (E σ) hr hg I.env0 bound all says) ?_)
  rintro (e | fl) s2 got
  · exact hx pins H s e s2 I got
  cases fl with
  | ret u => exact I.after got
  | _ => exact got.elim
def tCallG (sp : Sp) (dvs : List V) (E : L2.St → XK) (t : TA) : TE := fun σ H Q => t σ H fun vs H1 => sp (vs ++ dvs) H1 Q (E σ)
theorem pe_callG (F : FnG X.prog X.w X.K X.mg X.base CX k f fd ps sp) (hr : Room k X.A) (hgd : X.A.guards = some []) (hg : Gl X x) (hm : X.mg x = some (.ref f)) (hk : PySem.W.keepIn X.K (.ref f) = true) (hb : Binds X.K fd ps ds) (hd : Vals dvs ds) (hx : ∀ σ, PassesAt CX X σ (E σ))
    (ha : PA X (e :: es) t) (hdb : (x == ("__debug__" : Str)) = false := by decide) (he : starEach (e :: es) X.env = (false, eval e X.env) :: starEach es X.env := by rfl) (hpl : (backTo pos (starEach es X.env)).any (·.1) = false := by rfl) :
    PE X (.Call (.Name x p) (e :: es) [] pos) (tCallG sp dvs E t) := by
  refine ⟨fun pins s σ H Q I h => ?_⟩
  refine wpAny_Call_Name_kw (ld_glob I hg hm ?_ hdb)
  refine PySem.W.callWith_K (h₀ := X.base) I.ok.mod.kin hk (thn (ha.run pos pins s σ H _ I h) fun us s1 ⟨vs, H1, I1, r, q⟩ => ⟨I1.kIn, ?_⟩) he hpl
  exact run_fnG F hr hgd hb hd (hx σ) I1 r q
end

/-- a parameter stands in a slot or in a cell -/
theorem par_kind {N ps : List Str} {scope : Scope} (S : FnScope N ps scope) (n : Nat) (us : List Value) :
    ∀ y ∈ ps.zip us, scope.names.lookup y.1 = some .local ∨ (scope.names.lookup y.1 = some .cell ∧ ((cellsFrom n scope.names []).lookup y.1).isSome = true) :=
  fun y hy => (S.par y.1 (List.of_mem_zip (a := y.1) (b := y.2) hy).1).imp id fun q => ⟨q, PySem.W.cellsFrom_some _ _ _ (.inl q)⟩
/-- a promise of a def from one of its body -/
theorem fn_ofG {CX : CXT} {P : Program} {w : World} {K : PySem.W.Frag} {mg : Str → Option Value} {base : Heap} {k : Nat} {f : Addr} {name qual : Str} {params : Arguments} {body : List Stmt} {scope : Scope} {N ps : List Str} {sp : Sp} {cls dV kV doc pm cdv ct : Value} {an dict : Option Addr} {slots : Array (Option Value)}
    (lk : K.lookup f = some ⟨cls, dict, .func (PySem.W.fnOf name qual params body scope dV kV doc pm an cdv ct), slots⟩) (code : PySem.W.codeIn K cdv qual = true) (S : FnScope N ps scope) (len : ∀ vs H Q E, sp vs H Q E → vs.length = ps.length)
    (hbody : ∀ (A : Around) (outer : List Env) (s : Shared) (H : Hp) (vs : List V) (Q : VK) (E : XK), Room k (A.deeper (envOfC qual scope s.heap.objs.size f cdv)) → (A.deeper (envOfC qual scope s.heap.objs.size f cdv)).guards = some [] → sp vs H Q E →
      ∃ t, PSs (cxOf CX P w K mg base N qual scope f cdv A outer s H E) body t ∧ t { nx := fun _ H' => Q .non H', rt := Q } (L2.start N vs) H) :
    FnG P w K mg base CX (k + 1) f (PySem.W.fnOf name qual params body scope dV kV doc pm an cdv ct) ps sp := by
  constructor
  · exact len
  intro A outer s H args us vs Q E room calm e0 binds r says
  have seen : ∀ {b : Addr} {o : Obj}, base.get? b = some o → s.heap.get? b = some o := fun {b o} e => (e0.bs b o e).1
  have kin : K.In s.heap := e0.mod.kin.keeps fun _ _ => seen
  obtain ⟨t, walk, wants⟩ := hbody A outer s H vs Q E (room.deeper _) calm says
  refine codeAny_call_function room.depth (kin _ _ lk) rfl S.co S.gen rfl (PySem.W.codeRec_of kin code) (binds _ _ _ _ (wpAny_newFunctionEnv_cells S.kind (par_kind S _ us) ?_))
  rintro _ rfl s1 made
  refine ⟨(e0.mod.nolimit.keeps fun _ _ => seen).keeps made.toInCall.keep, codeAny_func ?_⟩
  have at_ := inv_start (CX := CX) (E := E) S room.hd e0 (len _ _ _ _ says) r made
  refine wpAny_mono (walk.run [] s1 (L2.start N vs) H _ at_ wants) ?_ fun _ _ x => x
  intro how s2 got
  cases how with
  | ret u =>
    obtain ⟨v, σ2, H2, J, rel, q⟩ := got
    exact ⟨v, H2, J.os, J.bare, J.base, J.hok, rel, q⟩
  | next =>
    obtain ⟨σ2, H2, J, q⟩ := got
    exact ⟨V.non, H2, J.os, J.bare, J.base, J.hok, rfl, q⟩
  | _ => exact got.choose_spec.choose_spec.2.elim

/-- a def of the text: K's object; its defaults dvs are bound behind what is written -/
structure Dfn (K : PySem.W.Frag) (x : Str) (st : Stmt) (ps : List Str) (dvs : List V) (f : Addr) (fd : FuncData) : Prop where
  ex : ∃ (oc : Value) (od : Option Addr) (dV kV doc pm : Value) (an : Option Addr) (cdv ct : Value) (osl : Array (Option Value)),
    fd = PySem.W.fnOf x x (defArgs st) (defBody st) (defScope st) dV kV doc pm an cdv ct ∧ K.lookup f = some ⟨oc, od, .func fd, osl⟩ ∧ PySem.W.codeIn K cdv x = true
  kp : PySem.W.keepIn K (.ref f) = true
  bd : ∃ ds, Vals dvs ds ∧ Binds K fd ps ds
/-- a def that a body may call: its name is bound to it, and its mirror -/
structure Cal (P : Program) (w : World) (K : PySem.W.Frag) (mg : Str → Option Value) (base : Heap) (CX : CXT) (k : Nat) (x : Str) (n : Nat) (dvs : List V) (F : M RV) : Prop where
  ex : ∃ (f : Addr) (fd : FuncData) (ps : List Str) (ds : List Value), mg x = some (.ref f) ∧ PySem.W.keepIn K (.ref f) = true ∧ Vals dvs ds ∧ Binds K fd ps ds ∧ FnG P w K mg base CX k f fd ps (spM K n F)
theorem Cal.mono {P : Program} {w : World} {K : PySem.W.Frag} {mg : Str → Option Value} {base : Heap} {CX : CXT} {j k : Nat} {x : Str} {n : Nat} {dvs : List V} {F : M RV} (c : Cal P w K mg base CX j x n dvs F) (h : j ≤ k) : Cal P w K mg base CX k x n dvs F := by
  obtain ⟨f, fd, ps, ds, h1, h2, h3, h4, h5⟩ := c.ex
  exact ⟨f, fd, ps, ds, h1, h2, h3, h4, h5.mono h⟩

/-- a def's promise from a derivation of its body -/
theorem dfn_ok {P : Program} {w : World} {K : PySem.W.Frag} {mg : Str → Option Value} {base : Heap} {CX : CXT} {k : Nat} {x : Str} {st : Stmt} {ps N : List Str} {own : List Nat} {dvs : List V} {f : Addr} {fd : FuncData} {body : Sm} (D : Dfn K x st ps dvs f fd) (S : FnScope N ps (defScope st))
    (hbody : ∀ (cdv : Value) (A : Around) (outer : List Env) (s : Shared) (H : Hp) (vs : List V) (E : XK), Room k (A.deeper (envOfC x (defScope st) s.heap.objs.size f cdv)) → (A.deeper (envOfC x (defScope st) s.heap.objs.size f cdv)).guards = some [] →
      ∃ t, PSs (cxOf CX P w K mg base N x (defScope st) f cdv A outer s H E) (defBody st) t ∧ SndS ⟨K, own, vs, fun c d _ H' => E c d H'⟩ t body) :
    FnG P w K mg base CX (k + 1) f fd ps (spM K ps.length (fnF own N.length body)) := by
  obtain ⟨oc, od, dV, kV, doc, pm, an, cdv, ct, osl, rfl, lk, hcd⟩ := D.ex
  refine fn_ofG lk hcd S (fun vs H Q E h => h.1) fun A outer s H vs Q E hr hgd hsp => ?_
  obtain ⟨hl, Hf, w', ε, En0, P0⟩ := hsp
  obtain ⟨t, h1, h2⟩ := hbody cdv A outer s H vs E hr hgd
  exact ⟨t, h1, body_fn (E0 := E) h2 En0 P0⟩
theorem FnG.cal {P : Program} {w : World} {K : PySem.W.Frag} {mg : Str → Option Value} {base : Heap} {CX : CXT} {k : Nat} {x : Str} {st : Stmt} {ps : List Str} {dvs : List V} {f : Addr} {fd : FuncData} {n : Nat} {F : M RV} (h : FnG P w K mg base CX k f fd ps (spM K n F)) (D : Dfn K x st ps dvs f fd) (hm : mg x = some (.ref f)) : Cal P w K mg base CX k x n dvs F :=
  let ⟨ds, h1, h2⟩ := D.bd
  ⟨⟨f, fd, ps, ds, hm, D.kp, h1, h2, h⟩⟩
/-- nothing is promised -/
theorem fnG_bad {P : Program} {w : World} {K : PySem.W.Frag} {mg : Str → Option Value} {base : Heap} {CX : CXT} {k : Nat} {f : Addr} {fd : FuncData} {ps : List Str} : FnG P w K mg base CX k f fd ps (spM K ps.length fun _ => .bad) :=
  ⟨fun vs H Q E h => h.1, fun A outer s H args us vs Q E _ _ _ _ _ h => by obtain ⟨_, Hf, w', ε, _, P0⟩ := h; exact P0.elim⟩
theorem dfn_mk {K : PySem.W.Frag} {x : Str} {st : Stmt} {ps : List Str} {f : Addr} {oc : Value} {od an : Option Addr} {osl : Array (Option Value)} {kV doc pm cdv ct : Value} (l : K.lookup f = some ⟨oc, od, .func (PySem.W.fnOf x x (defArgs st) (defBody st) (defScope st) .none kV doc pm an cdv ct), osl⟩)
    (c : PySem.W.codeIn K cdv x = true) (k : PySem.W.keepIn K (.ref f) = true)
    (h : ∀ (kV doc pm : Value) (an : Option Addr) (cdv ct : Value) (us : List Value), us.length = ps.length → bindArgs (PySem.W.fnOf x x (defArgs st) (defBody st) (defScope st) .none kV doc pm an cdv ct) ⟨us, []⟩ = pure (ps.zip us)) :
    Dfn K x st ps [] f (PySem.W.fnOf x x (defArgs st) (defBody st) (defScope st) .none kV doc pm an cdv ct) :=
  ⟨⟨oc, od, _, kV, doc, pm, an, cdv, ct, osl, rfl, l, c⟩, k, [], .nil, .all (h kV doc pm an cdv ct)⟩
/-- keyword-only parameters with defaults, no others -/
theorem dfn_mk0 {K : PySem.W.Frag} {x : Str} {st : Stmt} {ps : List Str} {f Dk : Addr} {oc : Value} {od an : Option Addr} {osl : Array (Option Value)} {doc pm cdv ct : Value} {kws : List (Str × V)} (l : K.lookup f = some ⟨oc, od, .func (PySem.W.fnOf x x (defArgs st) (defBody st) (defScope st) .none (.ref Dk) doc pm an cdv ct), osl⟩)
    (c : PySem.W.codeIn K cdv x = true) (k : PySem.W.keepIn K (.ref f) = true) (hq : ∀ q ∈ kws, ∃ u, PySem.W.nsIn K Dk q.1 = some (some u) ∧ RelV q.2 u) (n : Nat) (hk : kws ≠ []) (hn : n + kws.length = ps.length)
    (h : ∀ (D : Addr) (doc pm : Value) (an : Option Addr) (cdv ct : Value) (us ks : List Value), us.length = n → ks.length = kws.length →
      KwChain D ((kws.map (·.1)).zip ks) (bindArgs (PySem.W.fnOf x x (defArgs st) (defBody st) (defScope st) .none (.ref D) doc pm an cdv ct) ⟨us, []⟩) (ps.zip (us ++ ks))) :
    Dfn K x st ps (kws.map (·.2)) f (PySem.W.fnOf x x (defArgs st) (defBody st) (defScope st) .none (.ref Dk) doc pm an cdv ct) := by
  have F : FunD K x x (defArgs st) (defBody st) (defScope st) [] kws f (PySem.W.fnOf x x (defArgs st) (defBody st) (defScope st) .none (.ref Dk) doc pm an cdv ct) :=
    ⟨⟨oc, od, _, _, doc, pm, an, cdv, ct, osl, rfl, l, c, .inl ⟨rfl, rfl⟩, .inr ⟨Dk, rfl, hq⟩⟩, k⟩
  exact ⟨⟨oc, od, _, _, doc, pm, an, cdv, ct, osl, rfl, l, c⟩, k, F.binds0 n hk hn h⟩
end M3

namespace M3
open PySem PySem.Spec L2
open PyProof.Rows hiding St

/-! ### the rules: a reading and its mirror at once -/
structure ME (X : Cx) (C : Ct) (e : Expr) (t : TE) (m : M RV) : Prop where
  pe : PE X e t
  sn : Snd C relRV t m
  hK : X.K = C.K
structure MO (X : Cx) (C : Ct) (e : Expr) (t : TE) (m : M RV) : Prop where
  pe : PE X e t
  sn : Snd C relO t m
  hK : X.K = C.K
structure MD (X : Cx) (C : Ct) (e : Expr) (t : TE) (m : M D) : Prop where
  pe : PE X e t
  sn : Snd C relD t m
  hK : X.K = C.K
structure MT (X : Cx) (C : Ct) (e : Expr) (t : TT) (m : M Bool) : Prop where
  pt : PT X e t
  sn : Snd C relB t m
  hK : X.K = C.K
structure MW (X : Cx) (C : Ct) (e : Expr) (t : TT) (m : M Bool) : Prop where
  pw : PW X e t
  sn : Snd C relB t m
  hK : X.K = C.K
structure MAs (X : Cx) (C : Ct) (es : List Expr) (t : TA) (ms : M (List RV)) : Prop where
  pa : PA X es t
  sn : Snd C relOs t ms
  hK : X.K = C.K
structure MDs (X : Cx) (C : Ct) (es : List Expr) (t : TA) (ms : M (List D)) : Prop where
  pa : PA X es t
  sn : Snd C relDs t ms
  hK : X.K = C.K
structure MPo (X : Cx) (C : Ct) (e : Option Expr) (t : TO) (m : M (Option Int)) : Prop where
  po : PO X e t
  sn : Snd C relPI t m
structure MI (X : Cx) (C : Ct) (tg e : Expr) (t : TI) (m : M (List D)) : Prop where
  pi : PI X tg e t
  sn : Snd C relI t m
  hK : X.K = C.K
structure MG (X : Cx) (C : Ct) (vs : List Nat) (e : Expr) (g : TG) (p : Pat) : Prop where
  pg : PG X e g
  sn : PatS C g vs p
  hK : X.K = C.K
structure MGs (X : Cx) (C : Ct) (vs : List Nat) (es : List Expr) (g : TGs) (ps : List Pat) : Prop where
  pg : PGs X es g
  sn : PatSs C g vs ps
  hK : X.K = C.K
structure MS (X : Cx) (C : Ct) (st : Stmt) (t : TS) (m : Sm) : Prop where
  ps : PS X st t
  sn : SndS C t m
structure MSs (X : Cx) (C : Ct) (st : List Stmt) (t : TS) (m : Sm) : Prop where
  ps : PSs X st t
  sn : SndS C t m

section
variable {X : Cx} {C : Ct} {a b c e : Expr} {es rest : List Expr} {ta tb tc te : TE} {m m1 m2 m3 : M RV} {md : M D} {tr : TA} {ms : M (List RV)} {dm : M (List D)} {tt1 tt2 : TT} {c1 c2 : M Bool} {pos : Pos}
theorem ME.opd (h : ME X C e te m) : MO X C e te (oE m) := ⟨h.pe, h.sn.op, h.hK⟩
theorem MO.frz (h : MO X C e te m) : MD X C e te (fE m) := ⟨h.pe, h.sn.frz, h.hK⟩
theorem ME.frz (h : ME X C e te m) : MD X C e te (fE (oE m)) := h.opd.frz
theorem me_var (i : Nat) {x : Str} (hN : X.N[i]? = some x := by rfl) (hv : Vis X.env.scope x := by first | exact Or.inl rfl | exact Or.inr (Or.inl rfl) | exact Or.inr (Or.inr rfl)) (hd : (x == ("__debug__" : Str)) = false := by decide)
    (hcd : (x == ("__classdict__" : Str)) = false := by decide) (hK : X.K = C.K := by rfl) : ME X C (.Name x pos) (tVar i) (mVar i) := ⟨pe_var hN hv hd hcd, snd_var i, hK⟩
theorem me_int {i : Int} {j : Nat} (hK : X.K = C.K := by rfl) : ME X C (.Constant (.int i) j pos) (tC (.int i)) (mC (.int i)) := ⟨pe_int, snd_int i, hK⟩
theorem me_bl {i : Bool} {j : Nat} (hK : X.K = C.K := by rfl) : ME X C (.Constant (.bool i) j pos) (tC (.bl i)) (mC (.bool i)) := ⟨pe_bl, snd_bl i, hK⟩
theorem me_str {i : Str} {j : Nat} (hK : X.K = C.K := by rfl) : ME X C (.Constant (.str i) j pos) (tC (.str i)) (mC (.str i)) := ⟨pe_str, snd_str i, hK⟩
theorem me_non {j : Nat} (hK : X.K = C.K := by rfl) : ME X C (.Constant .none j pos) (tC .non) (mC .none) := ⟨pe_non, snd_non, hK⟩
/-- a module's int, text -/
theorem me_gint {x : Str} {i : Int} (h : ∃ u, X.mg x = some u ∧ RelV (.int i) u) (hg : Gl X x := by rfl) (hd : (x == ("__debug__" : Str)) = false := by decide) (hK : X.K = C.K := by rfl) : ME X C (.Name x pos) (tC (.int i)) (mC (.int i)) := let ⟨_, hm, r⟩ := h; ⟨pe_glob hg hm r hd, snd_int i, hK⟩
/-- argument lists -/
theorem mas_nil (hK : X.K = C.K := by rfl) : MAs X C [] tNil msNil := ⟨pa_nil, snd_nil, hK⟩
theorem mas_cons (h1 : MO X C e te m) (h2 : MAs X C es tr ms) (hs : starEach (e :: es) X.env = (false, eval e X.env) :: starEach es X.env := by rfl) : MAs X C (e :: es) (tCons te tr) (msCons m ms) := ⟨pa_cons h1.pe h2.pa hs, snd_cons h1.sn h2.sn, h1.hK⟩
theorem mds_nil (hK : X.K = C.K := by rfl) : MDs X C [] tNil dsNil := ⟨pa_nil, snd_dnil, hK⟩
theorem mds_cons (h1 : MD X C e te md) (h2 : MDs X C es tr dm) (hs : starEach (e :: es) X.env = (false, eval e X.env) :: starEach es X.env := by rfl) : MDs X C (e :: es) (tCons te tr) (dsCons md dm) := ⟨pa_cons h1.pe h2.pa hs, snd_dcons h1.sn h2.sn, h1.hK⟩
theorem me_lst {j : Nat} (h : MDs X C es tr dm) : ME X C (.List es pos) (tLst tr) (mLst dm) := ⟨pe_lst h.pa, snd_lst h.sn, h.hK⟩
theorem me_tup {j : Nat} (h : MDs X C es tr dm) : ME X C (.Tuple es j pos) (tTup tr) (mTup dm) := ⟨pe_tup h.pa, snd_tup h.sn, h.hK⟩
/-- operations -/
theorem me_op {op : Operator} {r : R2} {g : D → D → Option Out} (ho : OpR X (binaryOp op) r) (hs : OpS C r g) (h1 : MO X C a ta m1) (h2 : MO X C b tb m2) : ME X C (.BinOp a op b pos) (tOp r ta tb) (mOp g m1 m2) := ⟨pe_op ho h1.pe h2.pe, snd_op hs h1.sn h2.sn, h1.hK⟩
theorem me_un {op : UnaryOp} {r : V → Hp → VK → Prop} {g : D → Option Out} (ho : UnR X (unaryOp op) r) (hs : UnS C r g) (h1 : MO X C a ta m1) : ME X C (.UnaryOp op a pos) (tUn r ta) (mUn g m1) := ⟨pe_un ho h1.pe, snd_un hs h1.sn, h1.hK⟩
theorem me_cmp {op : CmpOp} {r : R2} {g : D → D → Option Bool} (ho : OpR X (compareOp op) r) (hs : OpS C r (bo g)) (h1 : MO X C a ta m1) (h2 : MO X C b tb m2) (hm : behindInMarks op b = false := by first | exact nobehind _ (by decide) (by decide) | rfl | with_unfolding_all rfl) :
    ME X C (.Compare a [op] [b] pos) (tOp r ta tb) (mOp (bo g) m1 m2) := ⟨pe_cmpR ho h1.pe h2.pe hm, snd_op hs h1.sn h2.sn, h1.hK⟩
theorem mt_cmp {op : CmpOp} {r : R2} {g : D → D → Option Bool} (ho : OpR X (compareOp op) r) (hs : OpS C r (bo g)) (h1 : MO X C a ta m1) (h2 : MO X C b tb m2) (hm : behindInMarks op b = false := by first | exact nobehind _ (by decide) (by decide) | rfl | with_unfolding_all rfl) :
    MT X C (.Compare a [op] [b] pos) (tTest (tOp r ta tb)) (mBl (mOp (bo g) m1 m2)) := ⟨pt_cmpR ho h1.pe h2.pe hm, snd_bool (snd_op hs h1.sn h2.sn), h1.hK⟩
/-- a value's truth -/
theorem mt_tru (h : MO X C a ta m) (he : ∀ whole, isTrue a X.env whole = (do let v ← whole; standAt a.pos; holding [v] (truthy v)) := by intro _; rfl) : MT X C a (tTru C.K ta) (mTru m) := ⟨by have q := pt_truth h.pe he; rw [h.hK] at q; exact q, snd_tru h.sn, h.hK⟩
/-- and, or, not: tests -/
theorem mw_and1 (h : MT X C a tt1 c1) : MW X C (.BoolOp .And [a] pos) tt1 c1 := ⟨pw_and1 h.pt, h.sn, h.hK⟩
theorem mw_or1 (h : MT X C a tt1 c1) : MW X C (.BoolOp .Or [a] pos) tt1 c1 := ⟨pw_or1 h.pt, h.sn, h.hK⟩
theorem mw_and (h1 : MT X C a tt1 c1) (h2 : MW X C (.BoolOp .And (b :: rest) pos) tt2 c2) : MW X C (.BoolOp .And (a :: b :: rest) pos) (tAnd tt1 tt2) (mAnd c1 c2) := ⟨pw_and h1.pt h2.pw, snd_and h1.sn h2.sn, h1.hK⟩
theorem mw_or (h1 : MT X C a tt1 c1) (h2 : MW X C (.BoolOp .Or (b :: rest) pos) tt2 c2) : MW X C (.BoolOp .Or (a :: b :: rest) pos) (tOr tt1 tt2) (mOr c1 c2) := ⟨pw_or h1.pt h2.pw, snd_or h1.sn h2.sn, h1.hK⟩
theorem MW.toT (h : MW X C e tt1 c1) : MT X C e tt1 c1 := ⟨h.pw.pt, h.sn, h.hK⟩
theorem mt_not (h : MT X C a tt1 c1) : MT X C (.UnaryOp .Not a pos) (tNot tt1) (mNot c1) := ⟨pt_not h.pt, snd_not h.sn, h.hK⟩
/-- and, or, not: values -/
theorem me_one {op : BoolOp} (h : ME X C a ta m) : ME X C (.BoolOp op [a] pos) ta m := ⟨pe_one h.pe, h.sn, h.hK⟩
theorem me_and (h1 : MO X C a ta m1) (h2 : ME X C (.BoolOp .And (b :: rest) pos) tb m2) : ME X C (.BoolOp .And (a :: b :: rest) pos) (tAndT C.K ta tb) (mAndV m1 m2) := ⟨by have q := pe_andT (pos := pos) h1.pe h2.pe; rw [h1.hK] at q; exact q, snd_andV h1.sn h2.sn, h1.hK⟩
theorem me_not (h : MO X C a ta m) : ME X C (.UnaryOp .Not a pos) (tNotT C.K ta) (mNotV m) := ⟨by have q := pe_notT (pos := pos) h.pe; rw [h.hK] at q; exact q, snd_notV h.sn, h.hK⟩
theorem me_ifE (hc : MT X C c tt1 c1) (h1 : ME X C a ta m1) (h2 : ME X C b tb m2) : ME X C (.IfExp c a b pos) (tIf tt1 ta tb) (mIfE c1 m1 m2) := ⟨pe_ifExp hc.pt h1.pe h2.pe, snd_ifE hc.sn h1.sn h2.sn, h1.hK⟩
/-- slices, subscripts -/
theorem mpo_none : MPo X C none tNoPart mNoPart := ⟨po_none, snd_noPart⟩
theorem mpo_some (h : MO X C e te m) : MPo X C (some e) (tPart te) (mPart m) := ⟨po_some h.pe, snd_part h.sn⟩
theorem me_sl {lo hi : Option Expr} {tl th : TO} {ml mh : M (Option Int)} {p2 : Pos} {r : V → Option Int → Option Int → Hp → VK → Prop} {g : D → Option Int → Option Int → Option Out} (hr : SlR X r) (hs : SlS C r g) (h : MO X C e te m) (hl : MPo X C lo tl ml) (hh : MPo X C hi th mh) :
    ME X C (.Subscript e (.Slice lo hi none p2) pos) (tSl r te tl th) (mSl g m ml mh) := ⟨pe_slice hr h.pe hl.po hh.po, snd_sl hs h.sn hl.sn hh.sn, h.hK⟩
theorem me_ix {r : R2} {g : D → D → Option Out} (hr : IxR X r) (hs : OpS C r g) (h1 : MO X C a ta m1) (h2 : MO X C b tb m2) (hp : PlainIx b := by exact fun _ _ => rfl) : ME X C (.Subscript a b pos) (tOp r ta tb) (mOp g m1 m2) := ⟨pe_ix hr h1.pe h2.pe hp, snd_op hs h1.sn h2.sn, h1.hK⟩
/-- methods of texts -/
theorem me_bm {name : Str} {id : String} {r : V → List V → Hp → VK → Prop} {g : D → List D → Option Out} {apos cpos : Pos} (slot : Slot "str" name id) (hty : typeOf (.builtin id) = pure (.type "method_descriptor")) (hm : MtR X id r) (hs : MtS C r g) (ho : MO X C a ta m) (ha : MAs X C (e :: es) tr ms)
    (hbase : attributeBase a name X.env (eval a X.env) = eval a X.env := by rfl)
    (hfew : ((backTo cpos (starEach (e :: es) X.env)).all (fun x => !x.1) && (backToKw cpos (keywordEach [] X.env)).all (fun x => x.1.isSome)
      && decide ((e :: es).length + ([] : List Keyword).length + (if ([] : List Keyword).isEmpty then 0 else 1) < 30)) = true := by rfl)
    (hline : (apos.endLine == cpos.line) = true := by rfl) (hst : starEach (e :: es) X.env = (false, eval e X.env) :: starEach es X.env := by rfl) (hplain : (backTo cpos (starEach es X.env)).any (·.1) = false := by rfl) :
    ME X C (.Call (.Attribute a name apos) (e :: es) [] cpos) (tBM C.K "str" r ta tr) (mBM g m ms) := ⟨by
      have q := pe_bm (apos := apos) (cpos := cpos) PySem.F.plainAttrs_str slot hty hm ho.pe ha.pa hbase hfew hline hst hplain
      rw [ho.hK] at q
      exact q, snd_bm hs ho.sn ha.sn, ho.hK⟩
/-- calls of what is built in -/
theorem me_callB {id : String} {x : Str} {p : Pos} {r : List V → Hp → VK → Prop} {g : List D → Option Out} (hc : CallR X (.builtin id) r) (hs : CallS C r g) (hm : X.mg x = none) (ha : MAs X C (e :: es) tr ms) (hv : bootBuiltins x = some (.builtin id) := by first | rfl | decide +kernel) (hg : Gl X x := by rfl)
    (hn : x ≠ "__name__" := by decide) (hdb : (x == ("__debug__" : Str)) = false := by decide)
    (he : starEach (e :: es) X.env = (false, eval e X.env) :: starEach es X.env := by rfl) (hpl : (backTo pos (starEach es X.env)).any (·.1) = false := by rfl) : ME X C (.Call (.Name x p) (e :: es) [] pos) (fun σ H Q => tr σ H fun vs H1 => r vs H1 Q) (mCallB g ms) :=
  ⟨pe_callB hc hg hm hv ha.pa hn hdb he hpl, snd_callB hs ha.sn, ha.hK⟩
theorem me_callTy {T : String} {x : Str} {p : Pos} {r : List V → Hp → VK → Prop} {g : List D → Option Out} (hc : CallR X (.type T) r) (hs : CallS C r g) (hm : X.mg x = none) (ha : MAs X C (e :: es) tr ms) (hv : bootBuiltins x = some (.type T) := by first | rfl | decide +kernel) (hg : Gl X x := by rfl)
    (hn : x ≠ "__name__" := by decide) (hdb : (x == ("__debug__" : Str)) = false := by decide)
    (he : starEach (e :: es) X.env = (false, eval e X.env) :: starEach es X.env := by rfl) (hpl : (backTo pos (starEach es X.env)).any (·.1) = false := by rfl) : ME X C (.Call (.Name x p) (e :: es) [] pos) (fun σ H Q => tr σ H fun vs H1 => r vs H1 Q) (mCallB g ms) :=
  ⟨pe_callTy hc hg hm hv ha.pa hn hdb he hpl, snd_callB hs ha.sn, ha.hK⟩
/-- calls of defs -/
def PassW (CX : CXT) (X : Cx) (W : WX) : Prop := ∀ σ, PassesAt CX X σ (WE W σ)
theorem me_call {CX : CXT} {k : Nat} {x : Str} {n : Nat} {F : M RV} {p : Pos} (K : Cal X.prog X.w X.K X.mg X.base CX k x n [] F) (hr : Room k X.A) (hgd : X.A.guards = some []) (hx : PassW CX X C.W) (ha : MAs X C (e :: es) tr ms) (hg : Gl X x := by rfl)
    (hdb : (x == ("__debug__" : Str)) = false := by decide) (he : starEach (e :: es) X.env = (false, eval e X.env) :: starEach es X.env := by rfl) (hpl : (backTo pos (starEach es X.env)).any (·.1) = false := by rfl) :
    ME X C (.Call (.Name x p) (e :: es) [] pos) (tCallG (spM C.K n F) [] (WE C.W) tr) (mCall n F ms) := by
  obtain ⟨f, fd, ps, ds, h1, h2, h3, h4, h5⟩ := K.ex
  refine ⟨?_, ?_, ha.hK⟩
  · have q := pe_callG (pos := pos) (p := p) h5 hr hgd hg h1 h2 h4 h3 hx ha.pa hdb he hpl
    rw [ha.hK] at q
    exact q
  · have q := snd_call (n := n) (F := F) (C := C) (E := WE C.W) (fun _ _ _ _ z => z) ha.sn
    have e : (fun (σ : L2.St) (H : Hp) (Q : VK) => tr σ H fun vs H1 => spM C.K n F vs H1 Q (WE C.W σ)) = tCallG (spM C.K n F) [] (WE C.W) tr := by
      funext σ H Q; unfold tCallG; simp only [List.append_nil]
    rw [e] at q
    exact q
/-- list comprehensions -/
theorem me_lc {elt tg iter : Expr} {ifs : List Expr} {scope : Scope} {own : List (Str × Nat)} {wi : TI} {g : TG} {tt : TT} {mi : M (List D)} {p : Pat} {mm : M D} (vs : List Nat) (ok : BlkOk X.N X.env.scope scope own) (hN : X.N.Nodup) (hi : MI X C tg iter wi mi)
    (hv : ∀ i, vs.contains i = true → C.own.contains i = false)
    (hg : ∀ (s : Shared) (H : Hp) (A : Addr) (cl : List (Str × Addr)) (fp : List Addr), MG (X.blk s H scope (compEnvC scope cl A X.env) fp) ⟨C.K, C.own, C.vs, noW⟩ vs tg g p)
    (ht : ∀ (s : Shared) (H : Hp) (A : Addr) (cl : List (Str × Addr)) (fp : List Addr), PTs (X.blk s H scope (compEnvC scope cl A X.env) fp) ifs tt ∧ Snd ⟨C.K, C.own, C.vs, noW⟩ relB tt c1)
    (he : ∀ (s : Shared) (H : Hp) (A : Addr) (cl : List (Str × Addr)) (fp : List Addr), MD (X.blk s H scope (compEnvC scope cl A X.env) fp) ⟨C.K, C.own, C.vs, noW⟩ elt te mm)
    (hvs : own.map (·.2) = vs := by rfl) (hc : X.calm = true := by rfl) (hs : ∀ x, foldedSetIterable iter X.env x = pure x := by intro _; rfl) : ME X C (.ListComp elt [⟨tg, iter, ifs, 0⟩] scope pos) (tLc wi g tt te vs) (mLc mi p vs c1 mm) := by
  obtain ⟨gs, gp⟩ : PatS ⟨C.K, C.own, C.vs, noW⟩ g vs p ∧ True := ⟨(hg X.s_0 X.H_0 0 [] []).sn, trivial⟩
  refine ⟨?_, snd_lc (C' := ⟨C.K, C.own, C.vs, noW⟩) hv rfl rfl rfl hi.sn gs (ht X.s_0 X.H_0 0 [] []).2 (he X.s_0 X.H_0 0 [] []).sn, hi.hK⟩
  have q := pe_lc (pos := pos) hc hN hi.pi ok (fun s H A cl fp => (hg s H A cl fp).pg) (fun s H A cl fp => (ht s H A cl fp).1) (fun s H A cl fp => (he s H A cl fp).pe) hs
  rw [hvs] at q
  exact q
end
end M3

namespace M3
open PySem PySem.Spec L2
open PyProof.Rows hiding St

/-! ### enumerate(tuple) -/
section
open PySem
theorem enum_new1 {v : Value} {o : Obj} {G : Heap → Prop} (B : Begins v o G) :
    Meets (Builtin.«enumerate.__new__» ⟨[.type "enumerate", v], []⟩) (fun _ R s => G s.heap ∧
      R (.ok (.ret (.ref (s.heap.push o).objs.size))) { s with heap := (s.heap.push o).push { cls := .type "enumerate", data := .fields #[.none, .bool false, .ref s.heap.objs.size, rawInt 0, .none, .none] } }) :=
  .of_wp fun prog w A R s hR => by
    obtain ⟨hp, g, d, tk, os⟩ := s
    obtain ⟨hG, hR⟩ := hR
    have hsub := sub_enumerate
    have step : ∀ {A' : Around} {E : Value → Shared → Prop} {Q : Value → Shared → Prop}, Q (.ref hp.objs.size) ⟨hp.push o, g, d, tk, os⟩ → wpAny (model prog w) A' (pyIter v) Q E ⟨hp, g, d, tk, os⟩ :=
      fun q => B.iter prog w _ _ ⟨hp, g, d, tk, os⟩ _ hG q
    wp_walk
    refine wpAny_stack_any fun st => wpAny_pure ?_
    split
    · rename_i c _ _ _ _ _
      cases (c == Value.type "enumerate") <;> (wp_walk using step; exact ⟨_, rfl, hR⟩)
    · wp_walk using step
      exact ⟨_, rfl, hR⟩
theorem call_enum1 {prog : Program} {w : World} {A : Around} {E : Value → Shared → Prop} {s : Shared} {v : Value} {o : Obj} {G : Heap → Prop} {Q : Value → Shared → Prop} (B : Begins v o G) (hG : G s.heap)
    (h : ∀ h', IsEnum h' (s.heap.objs.size + 1) s.heap.objs.size 0 .none → h'.get? s.heap.objs.size = some o → h'.objs.size = s.heap.objs.size + 2 →
      (∀ b ob, s.heap.get? b = some ob → h'.get? b = some ob) → Q (.ref (s.heap.objs.size + 1)) { s with heap := h' }) :
    wpAny (model prog w) A (call (.type "enumerate") [v]) Q E s := by
  refine callType_new F.called_enumerate (by decide) (F.typeCall_enumerate_1 _) (F.newCall_enumerate_1 _) (fun obj => F.args_object_init_2 obj _) F.entry_enumerate_new (enum_new1 B) ⟨hG, ?_⟩
  have hz : (s.heap.push o).objs.size = s.heap.objs.size + 1 := Heap.size_push ..
  have hf : o.isFreed = false := B.free
  show _ ∧ _
  rw [hz]
  have he : IsEnum ((s.heap.push o).push { cls := .type "enumerate", data := .fields #[.none, .bool false, .ref s.heap.objs.size, rawInt 0, .none, .none] }) (s.heap.objs.size + 1) s.heap.objs.size 0 .none := by
    have q := Heap.get?_push_size (s.heap.push o) (o := { cls := .type "enumerate", data := .fields #[.none, .bool false, .ref s.heap.objs.size, rawInt 0, .none, .none] }) rfl
    rw [hz] at q; exact q
  refine ⟨⟨_, he, rfl⟩, h _ he (Heap.get?_push_of_some _ (Heap.get?_push_size _ hf)) (by rw [Heap.size_push, hz]) fun b ob x => Heap.get?_push_of_some _ (Heap.get?_push_of_some _ x)⟩
end
/-- the tuple at a at each turn, each item in a new pair -/
def IteT (K : PySem.W.Frag) (a : Addr) : It :=
  ⟨fun i H => ∃ (xs : List V) (x : V), SqT K H a xs ∧ xs[i]? = some x, fun i H v H' => ∃ T x, v = .ref T ∧ H T = none ∧ H' = upd H T (.tup [.int (i : Nat), x]) ∧ ∀ xs, SqT K H a xs → xs[i]? = some x, fun i H => ∃ xs : List V, SqT K H a xs ∧ xs.length ≤ i⟩
theorem turn_enumT {P : Program} {w : World} {K : PySem.W.Frag} {elts : List Expr} {kk : Nat} {tpos : Pos} (a e it : Addr) :
    Turn P w K (.Tuple elts kk tpos) (IteT K a) [e, it] e (fun i h => (∃ old, IsEnum h e it ((i : Nat) : Int) old) ∧ h.IsTupleIter it a i ∧ e ≠ it ∧ a ≠ it ∧ e ≠ a) where
  mem := by simp
  obj := fun i h st b hb => by
    obtain ⟨⟨old, he⟩, ⟨o, ho, hc, hd⟩, _⟩ := st
    rcases (show b = e ∨ b = it by simpa using hb) with z | z
    · rw [z]; exact ⟨_, he, fun v q => nomatch q⟩
    · rw [z]; exact ⟨o, ho, fun v q => by rw [hd] at q; cases q⟩
  keep := fun i h h' st k => let ⟨⟨old, he⟩, hi, hne⟩ := st; ⟨⟨old, k e (by simp) _ he⟩, hi.at fun o q => k it (by simp) o q, hne⟩
  item := by
    intro X hP hw hK hc i pins s σ H E I hf st hg
    subst hP hw hK
    obtain ⟨⟨old, he⟩, hit, hne, hai, hea⟩ := st
    obtain ⟨xs, x, hq, hx⟩ := hg
    obtain ⟨its, rv, p, hz⟩ := I.tuple hq
    obtain ⟨u, hu, ru⟩ := rv.get hx
    have hel : e < s.heap.objs.size := Heap.lt_size he
    have hil : it < s.heap.objs.size := by obtain ⟨_, q, _⟩ := hit; exact Heap.lt_size q
    have hiu : its.toArray[i]? = some u := by simpa using hu
    have hlt : i < its.toArray.size := by
      rcases Nat.lt_or_ge i its.toArray.size with q | q
      · exact q
      · rw [Array.getElem?_eq_none q] at hiu; cases hiu
    refine wpAny_pyNext_enum_itemC (Draws.tuple (A := X.A.in1) (I.ok.hd hc) it a hai its.toArray) he (show s.heap.IsTupleIter it a i ∧ s.heap.IsTuple a its.toArray from ⟨hit, p⟩) hlt hne (by simp [hne, hea]) fun y h' tk hy ho hit' hT hsz hk => ?_
    obtain rfl : u = y := Option.some.inj (hiu.symm.trans hy)
    refine ⟨_, rfl, wpAny_letOwnedTupleGo_enum (s := { s with heap := h', toks := tk + 1 }) ho fun h'' he' sb => ?_⟩
    have hT2 : h''.get? s.heap.objs.size = some { cls := .type "tuple", data := .seq #[.int i tk, u] } := (sb.2 _ (Nat.ne_of_gt hel)).trans hT
    have new : ObjOk X.prog X.w (upd H s.heap.objs.size (.tup [.int (i : Nat), x])) h'' s.heap.objs.size (.tup [.int (i : Nat), x]) :=
      ⟨by show 2 ≤ sizeLine; decide, [.int i tk, u], .cons ⟨_, rfl⟩ (.cons ru .nil), ⟨_, hT2, rfl, _, rfl⟩⟩
    have I1 : Inv X pins σ (upd H s.heap.objs.size (.tup [.int (i : Nat), x])) { s with heap := h'', toks := tk + 1 } :=
      I.turnedNew (ch := [e, it]) (fun b ob hb q => (sb.2 b (fun z => hb (by simp [z]))).trans (hk b ob (fun z => hb (by simp [z])) (fun z => hb (by simp [z])) q)) hf (Nat.le_refl _) new
    refine ⟨.ref s.heap.objs.size, _, I1, rfl, ⟨_, x, rfl, I.hok.fresh (Nat.le_refl _), rfl, fun ys hy => by rw [I.tuple_inj hy hq]; exact hx⟩, ⟨⟨u, ?_⟩, hit'.1.at fun o q => (sb.2 it (Ne.symm hne)).trans q, hne, hai, hea⟩, fun b hb => ?_⟩
    · have e1 : ((i + 1 : Nat) : Int) = (i : Int) + 1 := by omega
      rw [e1]; exact he'
    · have hb' : b < s.heap.objs.size := by
        rcases (show b = e ∨ b = it by simpa using hb) with z | z
        · rw [z]; exact hel
        · rw [z]; exact hil
      rw [upd_ne (Nat.ne_of_lt hb')]
      exact (hf b hb).1
  done := by
    intro X hP hw hK hc i pins s σ H E I hf st hg
    subst hP hw hK
    obtain ⟨⟨old, he⟩, hit, hne, hai, hea⟩ := st
    obtain ⟨xs, hq, hx⟩ := hg
    obtain ⟨its, rv, p, hz⟩ := I.tuple hq
    obtain ⟨f0, f1, f2, f3, f4, f5⟩ := hf it (by simp)
    have hl := rv.length
    have D : Draws X.prog X.w X.A.in1 it [it, a] i (fun _ _ => False) (fun j h => j = i ∧ h.IsTupleIter it a i ∧ h.IsTuple a its.toArray) := {
      live := fun _ _ st => let ⟨o, ho, _⟩ := st.2.1; ⟨o, ho⟩
      frame := fun _ _ _ st k => ⟨st.1, st.2.1.at fun o e => k it (by simp) o e, st.2.2.at fun o e => k a (by simp) o e⟩
      item := fun j s Q E hj st _ => by have := st.1; omega
      done := fun s Q E st hE => wpAny_nextOf_tuple_end (I.ok.hd hc) st.2.1 st.2.2 (by simp; omega) hE }
    exact wpAny_pyNext_enum_endD D he ⟨rfl, hit, p⟩ fun h' eb => ⟨rfl, I.turned (t' := s.toks) (fun b o hb q => eb b o hb q) f0 f1 f3 f4 f5⟩
  self := fun A i s Q E st h => let ⟨⟨_, he⟩, _⟩ := st; wpAny_pyIter_enum he h
def iEnumA (K : PySem.W.Frag) (ta : TA) : TI := fun σ H R => ta σ H fun vs H1 => ∃ a xs, vs = [.ref a] ∧ ((SqL K H1 a xs ∧ R (Ite K a) H1) ∨ (SqT K H1 a xs ∧ R (IteT K a) H1))
theorem pi_enumA {X : Cx} {e : Expr} {ta : TA} {p pos tpos : Pos} {elts : List Expr} {kk : Nat} (hg : Gl X "enumerate") (hm : X.mg "enumerate" = none) (ha : PA X [e] ta) (hs : starEach [e] X.env = [(false, eval e X.env)] := by rfl) :
    PI X (.Tuple elts kk tpos) (.Call (.Name "enumerate" p) [e] [] pos) (iEnumA X.K ta) := by
  refine ⟨fun pins s σ H R I h => ?_⟩
  refine Call_ (ld_blt I hg hm boot_enumerate (PyProof.Rows.callWith_type1 (thn (ha.run pos pins s σ H _ I h) fun us s1 ⟨vs, H1, I1, r1, q1⟩ => ?_) hs rfl))
  obtain ⟨a, xs, ex, q1⟩ := q1
  subst ex
  cases r1 with
  | cons r rr =>
    cases rr
    cases r
    have two : ∀ b, b ∈ [s1.heap.objs.size + 1, s1.heap.objs.size] → FpOk X pins H1 b := fun b hb => by
      have hle : s1.heap.objs.size ≤ b := by
        rcases (show b = s1.heap.objs.size + 1 ∨ b = s1.heap.objs.size by simpa using hb) with z | z
        · rw [z]; exact Nat.le_add_right _ _
        · rw [z]; exact Nat.le_refl _
      exact I1.fpOk hle (I1.hok.fresh hle)
    rcases q1 with ⟨hq, q⟩ | ⟨hq, q⟩
    · obtain ⟨its, rv, p', hz⟩ := I1.list hq
      refine call_enumerate_list p'.isList fun h' he hit hsz hk => wpAny_pyIter_enum he ?_
      have I2 : Inv X pins σ H1 { s1 with heap := h' } := I1.kept (t' := s1.toks) hk
      exact ⟨s1.heap.objs.size + 1, [s1.heap.objs.size + 1, s1.heap.objs.size], _, _, H1, rfl, I2, turn_enum a (s1.heap.objs.size + 1) s1.heap.objs.size, ⟨⟨.none, he⟩, hit, Nat.succ_ne_self _⟩, two, q⟩
    · obtain ⟨its, rv, p', hz⟩ := I1.tuple hq
      obtain ⟨oa, hoa, _⟩ := id p'
      have hal : a < s1.heap.objs.size := Heap.lt_size hoa
      refine call_enum1 (begins_tuple a its.toArray) p' fun h' he hio hsz hk => wpAny_pyIter_enum he ?_
      have I2 : Inv X pins σ H1 { s1 with heap := h' } := I1.kept (t' := s1.toks) hk
      exact ⟨s1.heap.objs.size + 1, [s1.heap.objs.size + 1, s1.heap.objs.size], _, _, H1, rfl, I2, turn_enumT a (s1.heap.objs.size + 1) s1.heap.objs.size, ⟨⟨.none, he⟩, ⟨_, hio, rfl, rfl⟩, Nat.succ_ne_self _, Nat.ne_of_lt hal, Nat.ne_of_gt (Nat.lt_succ_of_lt hal)⟩, two, q⟩
theorem walk_enumT {K : PySem.W.Frag} {a : Addr} {xs : List V} : Walk (IteT K a) xs.length (fun H => SqT K H a xs) (YPair (fun i => some (.int (i : Nat))) (fun i => xs[i]?)) := by
  refine ⟨fun i _ hi q => ⟨xs, xs[i], q, by simp [hi]⟩, fun _ q => ⟨xs, q, Nat.le_refl _⟩, fun i H v H' _ q y => ?_⟩
  obtain ⟨T, x, h1, h2, h3, h4⟩ := y
  exact ⟨T, _, x, h1, h2, h3, rfl, h4 xs q⟩
end M3

namespace M3
open PySem PySem.Spec L2
open PyProof.Rows hiding St

/-! ### zip with strict -/
section
open PySem
variable {prog : Program} {w : World} {A : Around} {E : Value → Shared → Prop} {s : Shared}
abbrev ZObj (b : Bool) (h : Heap) (z TI TO : Addr) (v : Value) : Prop := h.get? z = some { cls := .type "zip", data := .fields #[v, .bool false, .bool b, .ref TI, .ref TO] }
theorem noe_ok {it : Addr} {Q : Option Value → Shared → Prop} (h : ∀ E', wpAny (model prog w) A (Builtin.SmallTypes.nextOf (.ref it)) (fun v s' => Q (some v) s') E' s) : wpAny (model prog w) A (Builtin.SmallTypes.nextOrEnd (.ref it)) Q E s := by
  unfold Builtin.SmallTypes.nextOrEnd
  exact wpAny_bind (wpAny_attempt (wpAny_mono (h _) (fun _ _ q => wpAny_pure q) fun _ _ x => x))
theorem noe_end {it : Addr} {Q : Option Value → Shared → Prop} {P : Heap → Prop} (h : ∀ (Q' E' : Value → Shared → Prop), (∀ h' e, P h' → (∃ o, h'.get? e = some o ∧ o.cls = .type "StopIteration") → E' (.ref e) { s with heap := h' }) → wpAny (model prog w) A (Builtin.SmallTypes.nextOf (.ref it)) Q' E' s)
    (hQ : ∀ h', P h' → Q none { s with heap := h' }) : wpAny (model prog w) A (Builtin.SmallTypes.nextOrEnd (.ref it)) Q E s := by
  unfold Builtin.SmallTypes.nextOrEnd
  refine wpAny_bind (wpAny_attempt (h _ _ fun h' e p ⟨o, ho, hc⟩ => ?_))
  exact wpAny_bind (wpAny_isInstance (T := "StopIteration") (b := true) ⟨o, ho, hc⟩ isSubtype_stop (wpAny_pure (hQ h' p)))
variable {z TI TO j k : Addr} {fj fk : List Addr} {n m i : Nat} {Pj Pk : Nat → Value → Prop} {Sj Sk : Nat → Heap → Prop} {a b : Value}
theorem zipS_item {Q : Value → Shared → Prop} (S : ZipSep2 z TI TO j k fj fk) (Dj : Draws prog w A j fj n Pj Sj) (Dk : Draws prog w A k fk m Pk Sk)
    (hz : ZObj true s.heap z TI TO .none) (hI : IsTupOf2 s.heap TI (.ref j) (.ref k)) (hO : IsTupOf2 s.heap TO a b) (sj : Sj i s.heap) (sk : Sk i s.heap) (lj : i < n) (lk : i < m)
    (hQ : ∀ x y h' tk, Pj i x → Pk i y → ZObj true h' z TI TO (rawInt s.heap.objs.size) → IsTupOf2 h' TO x y → Sj (i + 1) h' → Sk (i + 1) h' → IsTupOf2 h' s.heap.objs.size x y → h'.objs.size = s.heap.objs.size + 1 →
      (∀ c o, c ≠ z → c ≠ TO → c ≠ j → c ≠ k → s.heap.get? c = some o → h'.get? c = some o) → Q (.ref s.heap.objs.size) { s with heap := h', toks := tk }) :
    wpAny (model prog w) A (Builtin.«zip.__next__» ⟨[.ref z], []⟩) (fun fin s' => ∃ v, fin = .done (.ret v) ∧ Q v s') E s := by
  obtain ⟨hp, g, d, t0, os⟩ := s
  show wpAny _ A (field (.ref z) 2 >>= _) _ E _
  refine wpAny_bind (wpAny_field hz rfl (x := .bool true) rfl ?_)
  show wpAny _ A (field (.ref z) 3 >>= _) _ E _
  refine wpAny_bind (wpAny_field hz rfl (x := .ref TI) rfl (wpAny_bind (wpAny_seqItems hI rfl ?_)))
  show wpAny _ A (Builtin.SmallTypes.ownedTupleIsFree (.ref z) >>= _) _ E _
  refine wpAny_bind ?_
  unfold Builtin.SmallTypes.ownedTupleIsFree
  refine wpAny_bind (wpAny_field hz rfl (x := .none) rfl (wpAny_pure ?_))
  simp only [if_true]
  refine wpAny_bind (wpAny_rule (wpAny_bind (wpAny_field hz rfl (x := .ref TO) rfl (wpAny_bind (wpAny_setField_rec hz (by simp) fun u0 z0 s0 => ?_)))))
  have s0 : Heap.SameBut z hp u0 := s0
  have z0 : ZObj true u0 z TI TO .ellipsis := z0
  refine wpAny_bind ?_
  simp only [List.zipIdx_cons, List.zipIdx_nil, List.forIn_cons, List.forIn_nil]
  refine wpAny_bind (wpAny_bind (wpAny_onRaise ?_))
  show wpAny _ A (Builtin.SmallTypes.nextOrEnd (.ref j)) _ _ ⟨u0, g, d, t0, os⟩
  refine noe_ok fun E' => Dj.item i _ _ _ lj (Dj.over sj s0 S.zf1) fun x p1 t1 hx nj q1 => ?_
  have q1 : Heap.SameBut j u0 p1 := q1
  have o1 : IsTupOf2 p1 TO a b := q1.extBut _ _ S.Ti1 (s0.extBut _ _ S.TOz hO)
  refine wpAny_bind (wpAny_seqItems (s := ⟨p1, g, d, t1, os⟩) o1 rfl (wpAny_bind (updateSeq_IsTupOf2 (s := ⟨p1, g, d, t1, os⟩) o1 fun u1 v1 s1 => ?_)))
  have v1 : IsTupOf2 u1 TO x b := v1
  have s1 : Heap.SameBut TO p1 u1 := s1
  refine wpAny_bind (wpAny_letGo (wpAny_pure (wpAny_bind (wpAny_bind (wpAny_onRaise ?_)))))
  show wpAny _ A (Builtin.SmallTypes.nextOrEnd (.ref k)) _ _ ⟨u1, g, d, t1, os⟩
  refine noe_ok fun E' => Dk.item i _ _ _ lk (Dk.over (Dk.over (Dk.over sk s0 S.zf2) q1 S.sep1_2) s1 S.Tf2) fun y p2 t2 hy nk q2 => ?_
  have q2 : Heap.SameBut k u1 p2 := q2
  have o2 : IsTupOf2 p2 TO x b := q2.extBut _ _ S.Ti2 v1
  refine wpAny_bind (wpAny_seqItems (s := ⟨p2, g, d, t2, os⟩) o2 rfl (wpAny_bind (updateSeq_IsTupOf2 (s := ⟨p2, g, d, t2, os⟩) o2 fun u2 v2 s2 => ?_)))
  have v2 : IsTupOf2 u2 TO x y := v2
  have s2 : Heap.SameBut TO p2 u2 := s2
  refine wpAny_bind (wpAny_letGo (wpAny_pure (wpAny_pure (wpAny_bind (wpAny_seqItems (s := ⟨u2, g, d, t2, os⟩) v2 rfl (wpAny_bind (wpAny_newTuple ?_)))))))
  have sz : u2.objs.size = hp.objs.size := by rw [s2.1, q2.1, s1.1, q1.1, s0.1]
  have zz : ZObj true u2 z TI TO .ellipsis := s2.extBut _ _ S.TOz.symm (q2.extBut _ _ S.zi2 (s1.extBut _ _ S.TOz.symm (q1.extBut _ _ S.zi1 z0)))
  have kk : ∀ c o, c ≠ z → c ≠ TO → c ≠ j → c ≠ k → hp.get? c = some o → u2.get? c = some o := fun c o cz cT c1 c2 e => s2.extBut _ _ cT (q2.extBut _ _ c2 (s1.extBut _ _ cT (q1.extBut _ _ c1 (s0.extBut _ _ cz e))))
  have nj2 : Sj (i + 1) u2 := Dj.over (Dj.over (Dj.over nj s1 S.Tf1) q2 S.sep2_1) s2 S.Tf1
  have nk2 : Sk (i + 1) u2 := Dk.over nk s2 S.Tf2
  have zl : z < u2.objs.size := Heap.lt_size zz
  show wpAny _ A (Builtin.SmallTypes.ownedTupleHandOut (.ref z) (.ref u2.objs.size) >>= _) _ E ⟨u2.push { cls := .type "tuple", data := .seq #[x, y] }, g, d, t2, os⟩
  refine wpAny_bind ?_
  unfold Builtin.SmallTypes.ownedTupleHandOut
  have z6 : ZObj true (u2.push { cls := .type "tuple", data := .seq #[x, y] }) z TI TO .ellipsis := Heap.get?_push_of_some _ zz
  refine wpAny_bind (wpAny_setField_rec z6 (by simp) fun u7 z7 s7 => ?_)
  have z7 : ZObj true u7 z TI TO (rawInt u2.objs.size) := z7
  refine wpAny_setField_rec z7 (by simp) fun u8 z8 s8 => ?_
  have z8 : ZObj true u8 z TI TO (rawInt u2.objs.size) := z8
  have s7 : Heap.SameBut z (u2.push { cls := .type "tuple", data := .seq #[x, y] }) u7 := s7
  have s8 : Heap.SameBut z u7 u8 := s8
  have up : ∀ c o, c ≠ z → u2.get? c = some o → u8.get? c = some o := fun c o ne e => s8.extBut _ _ ne (s7.extBut _ _ ne (Heap.get?_push_of_some _ e))
  have t8 : IsTupOf2 u8 u2.objs.size x y := s8.extBut _ _ (Nat.ne_of_gt zl) (s7.extBut _ _ (Nat.ne_of_gt zl) (Heap.get?_push_size _ rfl))
  have l8 : u8.objs.size = u2.objs.size + 1 := by rw [s8.1, s7.1, Heap.size_push]
  rw [sz] at z8 t8 l8
  refine wpAny_pure ⟨_, rfl, ?_⟩
  show Q (.ref u2.objs.size) ⟨u8, g, d, t2, os⟩
  rw [sz]
  exact hQ x y u8 t2 hx hy z8 (up _ _ S.TOz v2) (Dj.frame _ _ _ nj2 fun c hc o e => up c o (fun q => S.zf1 (q ▸ hc)) e) (Dk.frame _ _ _ nk2 fun c hc o e => up c o (fun q => S.zf2 (q ▸ hc)) e) t8 l8 fun c o cz cT c1 c2 e => up c o cz (kk c o cz cT c1 c2 e)
theorem zipS_end {Q : Fin → Shared → Prop} (hh : A.handled = none) (S : ZipSep2 z TI TO j k fj fk) (Dj : Draws prog w A j fj n Pj Sj) (Dk : Draws prog w A k fk n Pk Sk)
    (hz : ZObj true s.heap z TI TO .none) (hI : IsTupOf2 s.heap TI (.ref j) (.ref k)) (hO : IsTupOf2 s.heap TO a b) (sj : Sj n s.heap) (sk : Sk n s.heap) (kz : k ≠ j)
    (hE : ∀ h' e, (∀ c o, c ≠ z → c ≠ TO → c ≠ j → c ≠ k → s.heap.get? c = some o → h'.get? c = some o) → (∃ o, h'.get? e = some o ∧ o.cls = .type "StopIteration") → E (.ref e) { s with heap := h' }) :
    wpAny (model prog w) A (Builtin.«zip.__next__» ⟨[.ref z], []⟩) Q E s := by
  obtain ⟨hp, g, d, t0, os⟩ := s
  show wpAny _ A (field (.ref z) 2 >>= _) _ E _
  refine wpAny_bind (wpAny_field hz rfl (x := .bool true) rfl ?_)
  show wpAny _ A (field (.ref z) 3 >>= _) _ E _
  refine wpAny_bind (wpAny_field hz rfl (x := .ref TI) rfl (wpAny_bind (wpAny_seqItems hI rfl ?_)))
  show wpAny _ A (Builtin.SmallTypes.ownedTupleIsFree (.ref z) >>= _) _ E _
  refine wpAny_bind ?_
  unfold Builtin.SmallTypes.ownedTupleIsFree
  refine wpAny_bind (wpAny_field hz rfl (x := .none) rfl (wpAny_pure ?_))
  simp only [if_true]
  refine wpAny_bind (wpAny_rule (wpAny_bind (wpAny_field hz rfl (x := .ref TO) rfl (wpAny_bind (wpAny_setField_rec hz (by simp) fun u0 z0 s0 => ?_)))))
  have s0 : Heap.SameBut z hp u0 := s0
  have z0 : ZObj true u0 z TI TO .ellipsis := z0
  refine wpAny_bind ?_
  simp only [List.zipIdx_cons, List.zipIdx_nil, List.forIn_cons, List.forIn_nil]
  refine wpAny_bind (wpAny_bind (wpAny_onRaise ?_))
  show wpAny _ A (Builtin.SmallTypes.nextOrEnd (.ref j)) _ _ ⟨u0, g, d, t0, os⟩
  refine noe_end (P := fun h' => Heap.ExtBut j u0 h') (fun Q' E' hE' => Dj.done ⟨u0, g, d, t0, os⟩ _ _ (Dj.over sj s0 S.zf1) hE') fun q1 e1 => ?_
  have z1 : ZObj true q1 z TI TO .ellipsis := e1 _ _ S.zi1 z0
  refine wpAny_bind (wpAny_setField_rec (s := ⟨q1, g, d, t0, os⟩) z1 (by simp) fun u1 z2 s1 => ?_)
  have s1 : Heap.SameBut z q1 u1 := s1
  refine wpAny_bind (wpAny_bind ?_)
  simp only [List.drop_succ_cons, List.drop_zero, List.zipIdx_cons, List.zipIdx_nil, List.forIn_cons, List.forIn_nil]
  have skq : Sk n u1 := Dk.over (Dk.frame _ _ _ (Dk.over sk s0 S.zf2) fun c hc o e => e1 c o (fun q => S.sep1_2 (q ▸ hc)) e) s1 S.zf2
  refine wpAny_bind (wpAny_bind (noe_end (P := fun h' => Heap.ExtBut k u1 h') (fun Q' E' hE' => Dk.done ⟨u1, g, d, t0, os⟩ _ _ skq hE') fun q2 e2 => ?_))
  simp only [Option.isSome_none, Bool.false_eq_true, if_false]
  refine wpAny_pure (wpAny_pure (wpAny_bind (wpAny_rule ?_)))
  unfold Builtin.SmallTypes.stopIteration
  refine wpAny_bind ?_
  simp only [newExc, newTuple]
  refine wpAny_bind (wpAny_newObj_type ?_ (by size_fits))
  refine wpAny_bind (m := firstArgMember _ _) (wpAny_of_eq (a := Value.none) (by first | rfl | (simp only [firstArgMember]; rfl)) (wpAny_newObj_type ?_ (by size_fits)))
  simp only [raiseNew]
  refine wpAny_bind (wpAny_handled ?_)
  rw [hh]
  refine wpAny_bind (wpAny_pure (wpAny_throw ?_))
  exact hE _ _ (fun c o cz cT cj ck e => Heap.get?_push_of_some _ (Heap.get?_push_of_some _ (e2 _ _ ck (s1.extBut _ _ cz (e1 _ _ cj (s0.extBut _ _ cz e)))))) ⟨_, Heap.get?_push_size _ rfl, rfl⟩
theorem zipS_pyItem {Q : Option Value → Shared → Prop} (S : ZipSep2 z TI TO j k fj fk) (Dj : Draws prog w A.in1 j fj n Pj Sj) (Dk : Draws prog w A.in1 k fk m Pk Sk)
    (hz : ZObj true s.heap z TI TO .none) (hI : IsTupOf2 s.heap TI (.ref j) (.ref k)) (hO : IsTupOf2 s.heap TO a b) (sj : Sj i s.heap) (sk : Sk i s.heap) (lj : i < n) (lk : i < m)
    (hQ : ∀ x y h' tk, Pj i x → Pk i y → ZObj true h' z TI TO (rawInt s.heap.objs.size) → IsTupOf2 h' TO x y → Sj (i + 1) h' → Sk (i + 1) h' → IsTupOf2 h' s.heap.objs.size x y → h'.objs.size = s.heap.objs.size + 1 →
      (∀ c o, c ≠ z → c ≠ TO → c ≠ j → c ≠ k → s.heap.get? c = some o → h'.get? c = some o) → Q (some (.ref s.heap.objs.size)) { s with heap := h', toks := tk }) :
    wpAny (model prog w) A (pyNext (.ref z)) Q E s := by
  have ty : s.TypeIs (.ref z) "zip" := ⟨_, hz, rfl⟩
  unfold pyNext
  refine wpAny_bind (wpAny_attempt (wpAny_callSpecial?_slot (name := Str.ofString "__next__") ty F.slot_zip_next (wpAny_call_entry F.slot_zip_next ty F.entry_zip_next ?_ (F.args_zip_next_1 _))))
  exact zipS_item S Dj Dk hz hI hO sj sk lj lk fun x y h' tk a1 a2 a3 a4 a5 a6 a7 a8 a9 => wpAny_pure (hQ x y h' tk a1 a2 a3 a4 a5 a6 a7 a8 a9)
theorem zipS_pyEnd {Q : Option Value → Shared → Prop} (hh : A.in1.handled = none) (S : ZipSep2 z TI TO j k fj fk) (Dj : Draws prog w A.in1 j fj n Pj Sj) (Dk : Draws prog w A.in1 k fk n Pk Sk)
    (hz : ZObj true s.heap z TI TO .none) (hI : IsTupOf2 s.heap TI (.ref j) (.ref k)) (hO : IsTupOf2 s.heap TO a b) (sj : Sj n s.heap) (sk : Sk n s.heap) (kz : k ≠ j)
    (hQ : ∀ h', (∀ c o, c ≠ z → c ≠ TO → c ≠ j → c ≠ k → s.heap.get? c = some o → h'.get? c = some o) → Q none { s with heap := h' }) :
    wpAny (model prog w) A (pyNext (.ref z)) Q E s := by
  have ty : s.TypeIs (.ref z) "zip" := ⟨_, hz, rfl⟩
  unfold pyNext
  refine wpAny_bind (wpAny_attempt (wpAny_callSpecial?_slot (name := Str.ofString "__next__") ty F.slot_zip_next (wpAny_call_entry F.slot_zip_next ty F.entry_zip_next ?_ (F.args_zip_next_1 _))))
  refine zipS_end hh S Dj Dk hz hI hO sj sk kz fun h' e up st => ?_
  obtain ⟨oe, he, hc⟩ := st
  exact wpAny_bind (wpAny_isInstance (T := "StopIteration") (b := true) ⟨oe, he, hc⟩ isSubtype_stop (wpAny_pure (hQ h' up)))
theorem zipS_go {elts : List Expr} {kk : Nat} {pos : Pos} {T : Addr} {Q : Unit → Shared → Prop} (hz : ZObj true s.heap z TI TO (rawInt T)) (hQ : ∀ h', ZObj true h' z TI TO .none → Heap.SameBut z s.heap h' → Q () { s with heap := h' }) :
    wpAny (model prog w) A (letOwnedTupleGo (.Tuple elts kk pos) (.ref z) (.ref T)) Q E s := by
  unfold letOwnedTupleGo
  refine wpAny_bind (wpAny_load hz ?_)
  show wpAny _ A (if (_ && (#[rawInt T, Value.bool false, Value.bool true, Value.ref TI, Value.ref TO] : Array Value)[0]? == some (rawInt T)) = true then _ else _) Q E s
  rw [if_pos (by simp)]
  refine wpAny_bind (wpAny_rule ?_)
  exact wpAny_setField_rec hz (by simp) fun h' z' s' => hQ h' z' s'
theorem zipS_iter {v : Value} {Q : Value → Shared → Prop} (hz : ZObj true s.heap z TI TO v) (h : Q (.ref z) s) : wpAny (model prog w) A (pyIter (.ref z)) Q E s := by
  have ty : s.TypeIs (.ref z) "zip" := ⟨_, hz, rfl⟩
  refine wpAny_pyIter_slot ty F.slot_zip_iter (wpAny_call_entry F.slot_zip_iter ty F.entry_zip_iter ?_ (F.args_zip_iter_1 _))
  exact wpAny_pure ⟨_, rfl, "zip", _, ty, F.slot_zip_next.lookup, h⟩
end
end M3

namespace M3
open PySem PySem.Spec L2
open PyProof.Rows hiding St

/-! ### zip of a list or tuple with a list or tuple, strict or not -/
def SqM (K : PySem.W.Frag) (t : Bool) (H : Hp) (a : Addr) (xs : List V) : Prop := match t with
  | true => SqT K H a xs
  | false => SqL K H a xs
def ItM (t : Bool) (h : Heap) (it a : Addr) (i : Nat) : Prop := match t with
  | true => h.IsTupleIter it a i
  | false => h.IsListIter it a i
def IsM (t : Bool) (h : Heap) (a : Addr) (vs : Array Value) : Prop := match t with
  | true => h.IsTuple a vs
  | false => h.IsList a vs
theorem drawsM {prog : Program} {w : World} {A : Around} (hh : A.handled = none) (t : Bool) (it a : Addr) (hne : a ≠ it) (items : Array Value) :
    Draws prog w A it [it, a] items.size (fun i v => items[i]? = some v) (fun i h => ItM t h it a i ∧ IsM t h a items) := by
  cases t with
  | true => exact Draws.tuple hh it a hne items
  | false => exact Draws.list hh it a hne items
theorem drawsE {prog : Program} {w : World} {A : Around} (hh : A.handled = none) (t : Bool) (it a : Addr) (items : Array Value) (i : Nat) (hi : items.size ≤ i) :
    Draws prog w A it [it, a] i (fun _ _ => False) (fun j h => j = i ∧ ItM t h it a i ∧ IsM t h a items) where
  live := fun _ _ st => by
    cases t with
    | true => obtain ⟨_, ⟨o, ho, _⟩, _⟩ := st; exact ⟨o, ho⟩
    | false => obtain ⟨_, ⟨o, ho, _⟩, _⟩ := st; exact ⟨o, ho⟩
  frame := fun _ _ _ st k => by
    cases t with
    | true =>
      obtain ⟨e, s1, s2⟩ := st
      exact ⟨e, Heap.IsTupleIter.at s1 fun o e => k it (by simp) o e, Heap.IsTuple.at s2 fun o e => k a (by simp) o e⟩
    | false =>
      obtain ⟨e, s1, s2⟩ := st
      exact ⟨e, Heap.IsListIter.at s1 fun o e => k it (by simp) o e, Heap.IsList.at s2 fun o e => k a (by simp) o e⟩
  item := fun j s Q E hj st _ => by have := st.1; omega
  done := fun s Q E st hE => by
    cases t with
    | true => exact wpAny_nextOf_tuple_end hh st.2.1 st.2.2 (by simp; omega) hE
    | false => exact wpAny_nextOf_list_end hh st.2.1 st.2.2 (by simp; omega) hE
def ItzM (b : Bool) (K : PySem.W.Frag) (t u : Bool) (p q : Addr) : It :=
  ⟨fun i H => ∃ (xs ys : List V) (x y : V), SqM K t H p xs ∧ SqM K u H q ys ∧ xs[i]? = some x ∧ ys[i]? = some y,
    fun i H v H' => ∃ T x y, v = .ref T ∧ H T = none ∧ H' = upd H T (.tup [x, y]) ∧ (∀ xs, SqM K t H p xs → xs[i]? = some x) ∧ ∀ ys, SqM K u H q ys → ys[i]? = some y,
    fun i H => ∃ xs ys : List V, SqM K t H p xs ∧ SqM K u H q ys ∧ (match b with
      | true => xs.length ≤ i ∧ ys.length ≤ i
      | false => xs.length ≤ i ∨ ys.length ≤ i)⟩
theorem seqM {X : Cx} {pins : List (Addr × Obj)} {σ : L2.St} {H : Hp} {s : Shared} (I : Inv X pins σ H s) {t : Bool} {a : Addr} {xs : List V} (h : SqM X.K t H a xs) : ∃ its : List Value, Vals xs its ∧ IsM t s.heap a its.toArray := by
  cases t with
  | true =>
    obtain ⟨its, rv, p, _⟩ := I.tuple h
    exact ⟨its, rv, p⟩
  | false =>
    obtain ⟨its, rv, p, _⟩ := I.list h
    exact ⟨its, rv, p.isList⟩
theorem sqM_inj {X : Cx} {pins : List (Addr × Obj)} {σ : L2.St} {H : Hp} {s : Shared} (I : Inv X pins σ H s) {t : Bool} {a : Addr} {xs ys : List V} (h : SqM X.K t H a xs) (h' : SqM X.K t H a ys) : xs = ys := by
  cases t with
  | true => exact I.tuple_inj h h'
  | false => exact I.list_inj h h'
theorem itM_obj {t : Bool} {h : Heap} {it a : Addr} {i : Nat} (x : ItM t h it a i) : ∃ o, h.get? it = some o ∧ ∀ v, o.data ≠ .cell v := by
  cases t with
  | true => obtain ⟨o, e, _, d⟩ := x; exact ⟨o, e, fun v q => by rw [d] at q; cases q⟩
  | false => obtain ⟨o, e, _, d⟩ := x; exact ⟨o, e, fun v q => by rw [d] at q; cases q⟩
theorem itM_keep {t : Bool} {h h' : Heap} {it a : Addr} {i : Nat} (x : ItM t h it a i) (k : ∀ o, h.get? it = some o → h'.get? it = some o) : ItM t h' it a i := by
  cases t with
  | true => exact Heap.IsTupleIter.at x k
  | false => exact Heap.IsListIter.at x k
theorem zM_go {b : Bool} {prog : Program} {w : World} {A : Around} {E : Value → Shared → Prop} {s : Shared} {elts : List Expr} {kk : Nat} {pos : Pos} {z TI TO T : Addr} {Q : Unit → Shared → Prop} (hz : ZObj b s.heap z TI TO (rawInt T)) (hQ : ∀ h', ZObj b h' z TI TO .none → Heap.SameBut z s.heap h' → Q () { s with heap := h' }) :
    wpAny (model prog w) A (letOwnedTupleGo (.Tuple elts kk pos) (.ref z) (.ref T)) Q E s := by
  cases b with
  | true => exact zipS_go hz hQ
  | false => exact wpAny_letOwnedTupleGo_zip hz hQ
theorem zM_iter {b : Bool} {prog : Program} {w : World} {A : Around} {E : Value → Shared → Prop} {s : Shared} {z TI TO : Addr} {v : Value} {Q : Value → Shared → Prop} (hz : ZObj b s.heap z TI TO v) (h : Q (.ref z) s) : wpAny (model prog w) A (pyIter (.ref z)) Q E s := by
  cases b with
  | true => exact zipS_iter hz h
  | false => exact wpAny_pyIter_zip hz h
theorem zM_item {b : Bool} {prog : Program} {w : World} {A : Around} {E : Value → Shared → Prop} {s : Shared} {z TI TO j k : Addr} {fj fk : List Addr} {n m i : Nat} {Pj Pk : Nat → Value → Prop} {Sj Sk : Nat → Heap → Prop} {x0 y0 : Value} {Q : Option Value → Shared → Prop} (S : ZipSep2 z TI TO j k fj fk) (Dj : Draws prog w A.in1 j fj n Pj Sj) (Dk : Draws prog w A.in1 k fk m Pk Sk)
    (hz : ZObj b s.heap z TI TO .none) (hI : IsTupOf2 s.heap TI (.ref j) (.ref k)) (hO : IsTupOf2 s.heap TO x0 y0) (sj : Sj i s.heap) (sk : Sk i s.heap) (lj : i < n) (lk : i < m)
    (hQ : ∀ x y h' tk, Pj i x → Pk i y → ZObj b h' z TI TO (rawInt s.heap.objs.size) → IsTupOf2 h' TO x y → Sj (i + 1) h' → Sk (i + 1) h' → IsTupOf2 h' s.heap.objs.size x y → h'.objs.size = s.heap.objs.size + 1 →
      (∀ c o, c ≠ z → c ≠ TO → c ≠ j → c ≠ k → s.heap.get? c = some o → h'.get? c = some o) → Q (some (.ref s.heap.objs.size)) { s with heap := h', toks := tk }) :
    wpAny (model prog w) A (pyNext (.ref z)) Q E s := by
  cases b with
  | true => exact zipS_pyItem S Dj Dk hz hI hO sj sk lj lk hQ
  | false => exact wpAny_pyNext_zipD2_item S Dj Dk hz hI hO sj sk lj lk hQ
theorem turn_zipM {P : Program} {w : World} {K : PySem.W.Frag} {elts : List Expr} {kk : Nat} {tpos : Pos} (b t u : Bool) {p q z TI TO j k : Addr} (S : ZipSep2 z TI TO j k [j, p] [k, q]) (pj : p ≠ j) (qk : q ≠ k) :
    Turn P w K (.Tuple elts kk tpos) (ItzM b K t u p q) [z, TI, TO, j, k] z (fun i h => ZObj b h z TI TO .none ∧ IsTupOf2 h TI (.ref j) (.ref k) ∧ (∃ x y, IsTupOf2 h TO x y) ∧ ItM t h j p i ∧ ItM u h k q i) where
  mem := by simp
  obj := fun i h st c hc => by
    obtain ⟨hz, hI, ⟨x, y, hO⟩, h1, h2⟩ := st
    rcases (show c = z ∨ c = TI ∨ c = TO ∨ c = j ∨ c = k by simpa using hc) with e | e | e | e | e <;> rw [e]
    · exact ⟨_, hz, fun v q => nomatch q⟩
    · exact ⟨_, hI, fun v q => nomatch q⟩
    · exact ⟨_, hO, fun v q => nomatch q⟩
    · exact itM_obj h1
    · exact itM_obj h2
  keep := fun i h h' st up => by
    obtain ⟨hz, hI, ⟨x, y, hO⟩, h1, h2⟩ := st
    exact ⟨up z (by simp) _ hz, up TI (by simp) _ hI, ⟨x, y, up TO (by simp) _ hO⟩, itM_keep h1 fun o e => up j (by simp) o e, itM_keep h2 fun o e => up k (by simp) o e⟩
  item := by
    intro X hP hw hK hc i pins s σ H E I hf st hg
    subst hP hw hK
    obtain ⟨hz, hI, ⟨x0, y0, hO⟩, h1, h2⟩ := st
    obtain ⟨xs, ys, x, y, sx, sy, hx, hy⟩ := hg
    obtain ⟨is1, v1, m1⟩ := seqM I sx
    obtain ⟨is2, v2, m2⟩ := seqM I sy
    obtain ⟨a1, g1, r1⟩ := v1.get hx
    obtain ⟨a2, g2, r2⟩ := v2.get hy
    have zl : z < s.heap.objs.size := Heap.lt_size hz
    have L1 : i < is1.toArray.size := by
      rcases Nat.lt_or_ge i is1.length with q | q
      · simpa using q
      · rw [List.getElem?_eq_none q] at g1; cases g1
    have L2 : i < is2.toArray.size := by
      rcases Nat.lt_or_ge i is2.length with q | q
      · simpa using q
      · rw [List.getElem?_eq_none q] at g2; cases g2
    refine zM_item S (drawsM (A := X.A.in1) (I.ok.hd hc) t j p pj is1.toArray) (drawsM (A := X.A.in1) (I.ok.hd hc) u k q qk is2.toArray) hz hI hO ⟨h1, m1⟩ ⟨h2, m2⟩ L1 L2 fun b1 b2 h' tk e1 e2 z' o' n1 n2 hT hsz up => ?_
    have e1 : is1.toArray[i]? = some b1 := e1
    have e2 : is2.toArray[i]? = some b2 := e2
    obtain rfl : a1 = b1 := Option.some.inj ((show is1.toArray[i]? = some a1 by simpa using g1).symm.trans e1)
    obtain rfl : a2 = b2 := Option.some.inj ((show is2.toArray[i]? = some a2 by simpa using g2).symm.trans e2)
    refine ⟨_, rfl, zM_go (s := { s with heap := h', toks := tk }) z' fun h'' z'' sb => ?_⟩
    have hT2 : h''.get? s.heap.objs.size = some { cls := .type "tuple", data := .seq #[a1, a2] } := (sb.2 _ (Nat.ne_of_gt zl)).trans hT
    have ob : ObjOk X.prog X.w (upd H s.heap.objs.size (.tup [x, y])) h'' s.heap.objs.size (.tup [x, y]) :=
      ⟨by show 2 ≤ sizeLine; decide, [a1, a2], .cons r1 (.cons r2 .nil), ⟨_, hT2, rfl, _, rfl⟩⟩
    have J : Inv X pins σ (upd H s.heap.objs.size (.tup [x, y])) { s with heap := h'', toks := tk } :=
      I.turnedNew (ch := [z, TI, TO, j, k]) (fun c o hb q => (sb.2 c (fun e => hb (by simp [e]))).trans (up c o (fun e => hb (by simp [e])) (fun e => hb (by simp [e])) (fun e => hb (by simp [e])) (fun e => hb (by simp [e])) q)) hf (Nat.le_refl _) ob
    refine ⟨.ref s.heap.objs.size, _, J, rfl, ⟨_, x, y, rfl, I.hok.fresh (Nat.le_refl _), rfl, fun l hl => by rw [sqM_inj I hl sx]; exact hx, fun l hl => by rw [sqM_inj I hl sy]; exact hy⟩, ⟨z'', ?_, ⟨a1, a2, ?_⟩, ?_, ?_⟩, fun c hc => ?_⟩
    · exact (sb.2 _ S.TIz).trans (up _ _ S.TIz S.TITO S.TIi1 S.TIi2 hI)
    · exact (sb.2 _ S.TOz).trans o'
    · exact itM_keep n1.1 fun o q => (sb.2 _ S.zi1.symm).trans q
    · exact itM_keep n2.1 fun o q => (sb.2 _ S.zi2.symm).trans q
    · have hlt : c < s.heap.objs.size := by
        rcases (show c = z ∨ c = TI ∨ c = TO ∨ c = j ∨ c = k by simpa using hc) with e | e | e | e | e <;> rw [e]
        · exact zl
        · exact Heap.lt_size hI
        · exact Heap.lt_size hO
        · obtain ⟨_, e1, _⟩ := itM_obj h1; exact Heap.lt_size e1
        · obtain ⟨_, e1, _⟩ := itM_obj h2; exact Heap.lt_size e1
      rw [upd_ne (Nat.ne_of_lt hlt)]
      exact (hf c hc).1
  done := by
    intro X hP hw hK hc i pins s σ H E I hf st hg
    subst hP hw hK
    obtain ⟨hz, hI, ⟨x0, y0, hO⟩, h1, h2⟩ := st
    obtain ⟨xs, ys, sx, sy, hend⟩ := hg
    obtain ⟨is1, v1, m1⟩ := seqM I sx
    obtain ⟨is2, v2, m2⟩ := seqM I sy
    have l1 : is1.toArray.size = xs.length := by simp [v1.length]
    have l2 : is2.toArray.size = ys.length := by simp [v2.length]
    have fin : ∀ (h' : Heap) (tk : Nat), (∀ c o, c ≠ z → c ≠ TO → c ≠ j → c ≠ k → s.heap.get? c = some o → h'.get? c = some o) → Inv X pins σ H { s with heap := h', toks := tk } := fun h' tk up =>
      I.turnedL (ch := [z, TI, TO, j, k]) (fun c o hb q => up c o (fun e => hb (by simp [e])) (fun e => hb (by simp [e])) (fun e => hb (by simp [e])) (fun e => hb (by simp [e])) q) hf
    cases b with
    | true =>
      obtain ⟨d1, d2⟩ := hend
      exact zipS_pyEnd (I.ok.hd hc) S (drawsE (A := X.A.in1) (I.ok.hd hc) t j p is1.toArray i (by omega)) (drawsE (A := X.A.in1) (I.ok.hd hc) u k q is2.toArray i (by omega)) hz hI hO ⟨rfl, h1, m1⟩ ⟨rfl, h2, m2⟩ (fun e => S.sep2_1 (by simp [e])) fun h' up => ⟨rfl, fin h' s.toks up⟩
    | false =>
      by_cases c1 : is1.toArray.size ≤ i
      · by_cases c2 : is2.toArray.size ≤ i
        · exact wpAny_pyNext_zipD2_end S (drawsE (A := X.A.in1) (I.ok.hd hc) t j p is1.toArray i c1) (drawsE (A := X.A.in1) (I.ok.hd hc) u k q is2.toArray i c2) hz hI hO ⟨rfl, h1, m1⟩ ⟨rfl, h2, m2⟩ (Nat.le_refl _) (Nat.le_refl _) (.inl rfl) fun h' tk up => ⟨rfl, fin h' tk up⟩
        · exact wpAny_pyNext_zipD2_end S (drawsE (A := X.A.in1) (I.ok.hd hc) t j p is1.toArray i c1) (drawsM (A := X.A.in1) (I.ok.hd hc) u k q qk is2.toArray) hz hI hO ⟨rfl, h1, m1⟩ ⟨h2, m2⟩ (Nat.le_refl _) (by omega) (.inl rfl) fun h' tk up => ⟨rfl, fin h' tk up⟩
      · have hend : xs.length ≤ i ∨ ys.length ≤ i := hend
        exact wpAny_pyNext_zipD2_end S (drawsM (A := X.A.in1) (I.ok.hd hc) t j p pj is1.toArray) (drawsE (A := X.A.in1) (I.ok.hd hc) u k q is2.toArray i (by omega)) hz hI hO ⟨h1, m1⟩ ⟨rfl, h2, m2⟩ (by omega) (Nat.le_refl _) (.inr rfl) fun h' tk up => ⟨rfl, fin h' tk up⟩
  self := fun A i s Q E st h => zM_iter st.1 h
end M3

namespace M3
open PySem PySem.Spec L2
open PyProof.Rows hiding St
def objM (t : Bool) (a : Addr) : Obj := match t with
  | true => { cls := .type "tuple_iterator", data := .fields #[.ref a, .int 0 0] }
  | false => { cls := .type "list_iterator", data := .fields #[.ref a, .int 0 0] }
theorem beginsM (t : Bool) (a : Addr) (items : Array Value) : Begins (.ref a) (objM t a) fun h => IsM t h a items := by
  cases t with
  | true => exact begins_tuple a items
  | false => exact begins_list a items
theorem itM_new {t : Bool} {h : Heap} {it a : Addr} (e : h.get? it = some (objM t a)) : ItM t h it a 0 := by
  cases t with
  | true => exact ⟨_, e, rfl, rfl⟩
  | false => exact ⟨_, e, rfl, rfl⟩
theorem isM_lt {t : Bool} {h : Heap} {a : Addr} {vs : Array Value} (x : IsM t h a vs) : a < h.objs.size := by
  cases t with
  | true => obtain ⟨o, e, _⟩ := x; exact Heap.lt_size e
  | false => obtain ⟨o, e, _⟩ := x; exact Heap.lt_size e
theorem sep5 {n p q : Nat} (hp : p < n) (hq : q < n) : ZipSep2 (n + 4) (n + 2) (n + 3) n (n + 1) [n, p] [n + 1, q] := by
  have nm : ∀ {x a b : Nat}, x ≠ a → x ≠ b → x ∉ ([a, b] : List Nat) := fun h1 h2 h => by
    rcases List.mem_cons.mp h with e | h
    · exact h1 e
    · exact h2 (List.mem_singleton.mp h)
  exact { TIz := (show (n + 2 : Nat) ≠ n + 4 by omega), TOz := (show (n + 3 : Nat) ≠ n + 4 by omega), TITO := (show (n + 2 : Nat) ≠ n + 3 by omega), TIi1 := (show (n + 2 : Nat) ≠ n by omega), mem1 := List.mem_cons_self, zf1 := nm (by omega) (by omega), Tf1 := nm (by omega) (by omega),
          TIi2 := (show (n + 2 : Nat) ≠ n + 1 by omega), mem2 := List.mem_cons_self, zf2 := nm (by omega) (by omega), Tf2 := nm (by omega) (by omega), sep1_2 := nm (by omega) (by omega), sep2_1 := nm (by omega) (by omega) }
def ZRes (b : Bool) (K : PySem.W.Frag) (vs : List V) (H : Hp) (R : It → Hp → Prop) : Prop := ∃ p q t u xs ys, vs = [.ref p, .ref q] ∧ SqM K t H p xs ∧ SqM K u H q ys ∧ R (ItzM b K t u p q) H
def iZipM (K : PySem.W.Frag) (ta : TA) : TI := fun σ H R => ta σ H fun vs H1 => ZRes false K vs H1 R
section
variable {X : Cx} {e e2 : Expr} {ta tk : TA} {p pos tpos : Pos} {elts : List Expr} {kk : Nat} {kws : List Keyword}
theorem fresh5 {pins : List (Addr × Obj)} {σ : L2.St} {H : Hp} {s : Shared} (I : Inv X pins σ H s) : ∀ c ∈ [s.heap.objs.size + 4, s.heap.objs.size + 2, s.heap.objs.size + 3, s.heap.objs.size, s.heap.objs.size + 1], FpOk X pins H c := fun c hc => by
  have hle : s.heap.objs.size ≤ c := by
    simp only [List.mem_cons, List.not_mem_nil, or_false] at hc
    rcases hc with z | z | z | z | z <;> rw [z] <;> omega
  exact I.fpOk hle (I.hok.fresh hle)
theorem zip_made {b : Bool} {pins : List (Addr × Obj)} {σ : L2.St} {H : Hp} {s : Shared} {a1 a2 : Addr} {t u : Bool} {xs ys : List V} {R : It → Hp → Prop} {h' : Heap} (I : Inv X pins σ H s) (s1 : SqM X.K t H a1 xs) (s2 : SqM X.K u H a2 ys) (q : R (ItzM b X.K t u a1 a2) H)
    (hz : ZObj b h' (s.heap.objs.size + 4) (s.heap.objs.size + 2) (s.heap.objs.size + 3) .none) (hT : IsTupOf2 h' (s.heap.objs.size + 2) (.ref s.heap.objs.size) (.ref (s.heap.objs.size + 1))) (hO : IsTupOf2 h' (s.heap.objs.size + 3) .none .none)
    (g1 : h'.get? s.heap.objs.size = some (objM t a1)) (g2 : h'.get? (s.heap.objs.size + 1) = some (objM u a2)) (up : ∀ c o, s.heap.get? c = some o → h'.get? c = some o) :
    wpAny (model X.prog X.w) X.A (pyIter (.ref (s.heap.objs.size + 4))) (PIE X pins σ (.Tuple elts kk tpos) R) X.xe { s with heap := h' } := by
  obtain ⟨is1, v1, m1⟩ := seqM I s1
  obtain ⟨is2, v2, m2⟩ := seqM I s2
  have l1 := isM_lt m1
  have l2 := isM_lt m2
  have J : Inv X pins σ H { s with heap := h' } := I.kept (t' := s.toks) up
  refine zM_iter (s := { s with heap := h' }) hz ?_
  exact ⟨s.heap.objs.size + 4, [s.heap.objs.size + 4, s.heap.objs.size + 2, s.heap.objs.size + 3, s.heap.objs.size, s.heap.objs.size + 1], _, _, H, rfl, J, turn_zipM b t u (sep5 l1 l2) (Nat.ne_of_lt l1) (Nat.ne_of_lt (Nat.lt_succ_of_lt l2)), ⟨hz, hT, ⟨_, _, hO⟩, itM_new g1, itM_new g2⟩, fresh5 I, q⟩
theorem pi_zipM (hg : Gl X "zip") (hm : X.mg "zip" = none) (ha : PA X [e, e2] ta) (hs : starEach [e, e2] X.env = (false, eval e X.env) :: starEach [e2] X.env := by rfl) (hpl : (backTo pos (starEach [e2] X.env)).any (·.1) = false := by rfl) :
    PI X (.Tuple elts kk tpos) (.Call (.Name "zip" p) [e, e2] [] pos) (iZipM X.K ta) := by
  refine ⟨fun pins s σ H R I h => ?_⟩
  refine Call_ (ld_blt I hg hm PyProof.Rows.boot_zip (PyProof.Rows.callWith_type1 (thn (ha.run pos pins s σ H _ I h) fun us s1 ⟨vs, H1, I1, r1, q1⟩ => ?_) hs hpl))
  obtain ⟨a1, a2, t, u, xs, ys, ex, w1, w2, q⟩ := q1
  subst ex
  cases r1 with
  | cons r rr =>
    cases rr with
    | cons r' rr =>
      cases rr
      cases r
      cases r'
      obtain ⟨is1, v1, m1⟩ := seqM I1 w1
      obtain ⟨is2, v2, m2⟩ := seqM I1 w2
      exact zip_begins2 (beginsM t a1 is1.toArray) (beginsM u a2 is2.toArray) m1 m2 fun h' hz hT hO g1 g2 _ up => zip_made (b := false) I1 w1 w2 q hz hT hO g1 g2 up
end
theorem walk_zipM {b : Bool} {K : PySem.W.Frag} {t u : Bool} {p q : Addr} {xs ys : List V} {n : Nat} (hn : match b with
    | true => n = xs.length ∧ n = ys.length
    | false => n = min xs.length ys.length) : Walk (ItzM b K t u p q) n (fun H => SqM K t H p xs ∧ SqM K u H q ys) (YPair (fun i => xs[i]?) (fun i => ys[i]?)) := by
  have hlt : ∀ i, i < n → i < xs.length ∧ i < ys.length := fun i hi => by
    cases b with
    | true => obtain ⟨h1, h2⟩ := hn; omega
    | false => have hn : n = min xs.length ys.length := hn; omega
  refine ⟨fun i _ hi z => ?_, fun _ z => ⟨xs, ys, z.1, z.2, ?_⟩, fun i H v H' _ z y => ?_⟩
  · obtain ⟨h1, h2⟩ := hlt i hi
    exact ⟨xs, ys, xs[i], ys[i], z.1, z.2, by simp [h1], by simp [h2]⟩
  · cases b with
    | true => obtain ⟨h1, h2⟩ := hn; exact ⟨by omega, by omega⟩
    | false => have hn : n = min xs.length ys.length := hn; show xs.length ≤ n ∨ ys.length ≤ n; omega
  · obtain ⟨T, x, y', h1, h2, h3, h4, h5⟩ := y
    exact ⟨T, x, y', h1, h2, h3, h4 xs z.1, h5 ys z.2⟩
end M3

namespace M3
open PySem PySem.Spec L2
open PyProof.Rows hiding St

/-! ### what is walked: instances -/
def charsD (x : Str) : List D := x.cps.toList.map fun c => .str ⟨#[c]⟩
def itemsD : D → Option (List D)
  | .list ds => some ds
  | .tuple ds => some ds
  | .str x => some (charsD x)
  | _ => none
def mIt (m : M D) : M (List D) := fun ε => (m ε).bind fun d ε1 => match itemsD d with
  | some ds => .ok ds ε1
  | none => .bad
def iAny (K : PySem.W.Frag) (te : TE) : TI := fun σ H R => iList K te σ H R ∨ iTup K te σ H R ∨ iStr te σ H R
theorem pi_any {X : Cx} {K : PySem.W.Frag} {tg e : Expr} {te : TE} (he : PE X e te) (hK : X.K = K) : PI X tg e (iAny K te) := by
  subst hK
  refine ⟨fun pins s σ H R I h => ?_⟩
  rcases h with h | h | h
  · exact (pi_list he).run pins s σ H R I h
  · exact (pi_tup he).run pins s σ H R I h
  · exact (pi_str he).run pins s σ H R I h
theorem itr_lst {C : Ct} {Hf : Hp} {a : Addr} {vs : List V} {ds : List D} (h : Hf a = some (.lst vs)) (q : DqAll C.K Hf vs ds) : ItR C Hf (Itl C.K a) ds := by
  refine ⟨fun H => SqL C.K H a vs, YAt vs, by rw [← q.length]; exact walk_list, fun H' s => SqL.of (s _ _ h), fun Hf' H' i x H'' hi s1 s2 y => ?_⟩
  obtain ⟨rfl, hx⟩ := y
  obtain ⟨d, h1, h2⟩ := q.get hx
  exact ⟨d, h1, .inl ⟨rfl, h2.mono s1⟩⟩
theorem itr_tup {C : Ct} {Hf : Hp} {a : Addr} {vs : List V} {ds : List D} (h : SqT C.K Hf a vs) (q : DqAll C.K Hf vs ds) : ItR C Hf (Itt C.K a) ds := by
  refine ⟨fun H => SqT C.K H a vs, YAt vs, by rw [← q.length]; exact walk_tup, fun H' s => Same.tup s h, fun Hf' H' i x H'' hi s1 s2 y => ?_⟩
  obtain ⟨rfl, hx⟩ := y
  obtain ⟨d, h1, h2⟩ := q.get hx
  exact ⟨d, h1, .inl ⟨rfl, h2.mono s1⟩⟩
theorem itr_str {C : Ct} {Hf : Hp} {z : Str} : ItR C Hf (Its z) (charsD z) := by
  refine ⟨fun _ => True, fun i H v H' => H' = H ∧ ∃ c, z.cps[i]? = some c ∧ v = .str ⟨#[c]⟩, by
    have e : (charsD z).length = z.cps.size := by unfold charsD; rw [List.length_map, Array.length_toList]
    rw [e]; exact walk_str, fun _ _ => trivial, fun Hf' H' i x H'' hi s1 s2 y => ?_⟩
  obtain ⟨rfl, c, hc, rfl⟩ := y
  refine ⟨.str ⟨#[c]⟩, ?_, .inl ⟨rfl, .str _⟩⟩
  unfold charsD
  rw [List.getElem?_map, Array.getElem?_toList, hc]
  rfl
theorem snd_it {C : Ct} {te : TE} {m : M D} (h : Snd C relD te m) : Snd C relI (iAny C.K te) (mIt m) := by
  intro Hf H w σ ε Q E P
  unfold mIt at P
  cases e : m ε with
  | bad => rw [e] at P; exact P.elim
  | err x ε1 =>
    rw [e] at P
    refine .inl (h Hf H w σ ε _ E ?_)
    rw [e]; exact P
  | ok d ε1 =>
    rw [e] at P
    simp only [R.bind] at P
    cases d with
    | list ds =>
      refine .inl (h Hf H w σ ε _ E ?_)
      rw [e]
      intro Hf1 H1 w1 S b E1 st r
      obtain ⟨r0, r1⟩ := r
      cases r1 with
      | lst h1 h2 => exact ⟨_, rfl, ⟨_, SqL.of (E1.sub _ _ h1)⟩, P Hf1 H1 w1 (fun _ => False) _ E1 (st.out fun x z => z.elim .inl False.elim) ⟨fun _ z => z, itr_lst h1 h2⟩⟩
    | tuple ds =>
      refine .inr (.inl (h Hf H w σ ε _ E ?_))
      rw [e]
      intro Hf1 H1 w1 S b E1 st r
      obtain ⟨r0, r1⟩ := r
      cases r1 with
      | tup h1 h2 => exact ⟨_, rfl, ⟨_, Same.tup E1.sub h1⟩, P Hf1 H1 w1 (fun _ => False) _ E1 (st.out fun x z => z.elim .inl False.elim) ⟨fun _ z => z, itr_tup h1 h2⟩⟩
    | str z =>
      refine .inr (.inr (h Hf H w σ ε _ E ?_))
      rw [e]
      intro Hf1 H1 w1 S b E1 st r
      obtain ⟨r0, r1⟩ := r
      cases r1
      exact ⟨z, rfl, P Hf1 H1 w1 (fun _ => False) _ E1 (st.out fun x z => z.elim .inl False.elim) ⟨fun _ z => z, itr_str⟩⟩
    | _ => exact P.elim
theorem mi_any {X : Cx} {C : Ct} {tg e : Expr} {te : TE} {m : M D} (h : MD X C e te m) : MI X C tg e (iAny C.K te) (mIt m) := ⟨pi_any h.pe h.hK, snd_it h.sn, h.hK⟩

/-- range -/
def rngD (lo : Int) (n : Nat) : List D := (List.range n).map fun (k : Nat) => PyData.int (lo + (k : Int))
def mRng1 (ms : M (List RV)) : M (List D) := fun ε => (ms ε).bind fun rs ε1 => match viewAll ε1 rs with
  | some [.int j] => if -(2 ^ 62) ≤ j ∧ j < 2 ^ 62 then .ok (rngD 0 j.toNat) ε1 else .bad
  | _ => .bad
theorem itr_rng {C : Ct} {Hf : Hp} {lo : Int} {n : Nat} : ItR C Hf (Itr lo n) (rngD lo n) := by
  refine ⟨fun _ => True, YFn fun i => .int (lo + i), by
    have e : (rngD lo n).length = n := by unfold rngD; rw [List.length_map, List.length_range]
    rw [e]; exact walk_range, fun _ _ => trivial, fun Hf' H' i x H'' hi s1 s2 y => ?_⟩
  obtain ⟨rfl, rfl⟩ := y
  refine ⟨.int (lo + i), ?_, .inl ⟨rfl, .int _⟩⟩
  have hi' : i < n := by unfold rngD at hi; rw [List.length_map, List.length_range] at hi; exact hi
  unfold rngD
  rw [List.getElem?_map, List.getElem?_range hi']
  rfl
theorem VwAll.one {C : Ct} {Hf H : Hp} {vs : List V} {d : D} (h : VwAll C Hf H vs [d]) : ∃ v, vs = [v] ∧ Vw C Hf H v d := by
  cases h with
  | cons a b => cases b; exact ⟨_, rfl, a⟩
theorem VwAll.two {C : Ct} {Hf H : Hp} {vs : List V} {d e : D} (h : VwAll C Hf H vs [d, e]) : ∃ v u, vs = [v, u] ∧ Vw C Hf H v d ∧ Vw C Hf H u e := by
  cases h with
  | cons a b =>
    obtain ⟨u, rfl, q⟩ := b.one
    exact ⟨_, u, rfl, a, q⟩
theorem snd_rng1 {C : Ct} {tr : TA} {ms : M (List RV)} (h : Snd C relOs tr ms) : Snd C relI (iRng1 tr) (mRng1 ms) := by
  refine Snd.bind (Rel1 := relOs) (t1 := tr) (t2 := fun vs (σ : L2.St) H1 (R : It → Hp → Prop) => ∃ j : Int, vs = [V.int j] ∧ -(2 ^ 62) ≤ j ∧ j < 2 ^ 62 ∧ R (Itr 0 j.toNat) H1) h fun Hf H w σ ε S vs rs Q E rb P => ?_
  split at P
  · rename_i j e
    split at P
    · rename_i hj
      obtain ⟨v, rfl, q⟩ := (rb.2.view E e).one
      cases q
      exact ⟨j, rfl, hj.1, hj.2, P.here E ⟨fun _ z => z, itr_rng⟩⟩
    · exact P.elim
  · exact P.elim
theorem mi_rng1 {X : Cx} {C : Ct} {tg a : Expr} {p pos : Pos} {tr : TA} {ms : M (List RV)} (hm : X.mg "range" = none) (h : MAs X C [a] tr ms) (hg : Gl X "range" := by rfl) (hs : starEach [a] X.env = [(false, eval a X.env)] := by rfl) : MI X C tg (.Call (.Name "range" p) [a] [] pos) (iRng1 tr) (mRng1 ms) := ⟨pi_range1 hg hm h.pa hs, snd_rng1 h.sn, h.hK⟩
/-- enumerate(list), zip(list, list), zip(tuple, tuple) -/
def enumD : Nat → List D → List D
  | _, [] => []
  | i, d :: ds => .tuple [.int i, d] :: enumD (i + 1) ds
def mEnum (ms : M (List D)) : M (List D) := fun ε => (ms ε).bind fun rs ε1 => match rs with
  | [.list ds] => .ok (enumD 0 ds) ε1
  | [.tuple ds] => .ok (enumD 0 ds) ε1
  | _ => .bad
def zipD (a b : List D) : List D := (a.zip b).map fun p => .tuple [p.1, p.2]
def seqD : D → Option (List D)
  | .list ds => some ds
  | .tuple ds => some ds
  | _ => none
def mZip (ms : M (List D)) : M (List D) := fun ε => (ms ε).bind fun rs ε1 => match rs with
  | [d, e] => (match seqD d, seqD e with
    | some a, some b => .ok (zipD a b) ε1
    | _, _ => .bad)
  | _ => .bad
theorem enumD_len : ∀ (i : Nat) (ds : List D), (enumD i ds).length = ds.length
  | _, [] => rfl
  | i, d :: ds => congrArg Nat.succ (enumD_len (i + 1) ds)
theorem enumD_get : ∀ (i j : Nat) (ds : List D), (enumD i ds)[j]? = ds[j]?.map fun d => .tuple [.int (i + j : Nat), d]
  | _, _, [] => by simp [enumD]
  | i, 0, d :: ds => by simp [enumD]
  | i, j + 1, d :: ds => by
    show (enumD (i + 1) ds)[j]? = _
    rw [enumD_get (i + 1) j ds]
    have : i + 1 + j = i + (j + 1) := by omega
    rw [this]; simp
theorem DqAll.one {K : PySem.W.Frag} {H : Hp} {vs : List V} {d : D} (h : DqAll K H vs [d]) : ∃ v, vs = [v] ∧ Dq K H v d := by
  cases h with
  | cons a b => cases b; exact ⟨_, rfl, a⟩
theorem DqAll.two {K : PySem.W.Frag} {H : Hp} {vs : List V} {d e : D} (h : DqAll K H vs [d, e]) : ∃ v u, vs = [v, u] ∧ Dq K H v d ∧ Dq K H u e := by
  cases h with
  | cons a b =>
    obtain ⟨u, rfl, q⟩ := b.one
    exact ⟨_, u, rfl, a, q⟩
theorem snd_enum {C : Ct} {tr : TA} {ms : M (List D)} (h : Snd C relDs tr ms) : Snd C relI (iEnumA C.K tr) (mEnum ms) := by
  refine Snd.bind (Rel1 := relDs) (t1 := tr) (t2 := fun vs (σ : L2.St) H1 (R : It → Hp → Prop) => ∃ a xs, vs = [V.ref a] ∧ ((SqL C.K H1 a xs ∧ R (Ite C.K a) H1) ∨ (SqT C.K H1 a xs ∧ R (IteT C.K a) H1))) h fun Hf H w σ ε S vs rs Q E rb P => ?_
  have fin : ∀ {xs : List V} {ds : List D}, DqAll C.K Hf xs ds → ∀ (Hf' H' : Hp) (i : Nat) (x : V) (H'' : Hp), Same Hf Hf' → Same Hf' H' → YPair (fun i => some (.int (i : Nat))) (fun i => xs[i]?) i H' x H'' → ∃ d, (enumD 0 ds)[i]? = some d ∧ ((H'' = H' ∧ Dq C.K Hf' x d) ∨ ∃ p o, H' p = none ∧ H'' = upd H' p o ∧ Dq C.K (upd Hf' p o) x d) := by
    intro xs ds g Hf' H' i x H'' s1 s2 y
    obtain ⟨T, x1, x2, rfl, hT, rfl, e1, e2⟩ := y
    obtain ⟨d, g1, g2⟩ := g.get e2
    refine ⟨.tuple [.int (0 + i : Nat), d], by rw [enumD_get, g1]; rfl, .inr ⟨T, _, hT, rfl, ?_⟩⟩
    cases e1
    have sm : Same Hf' (upd Hf' T (.tup [.int (i : Nat), x2])) := same_upd (same_none s2 hT)
    rw [Nat.zero_add]
    exact .tup (SqT.of upd_same) (.cons (.int _) (.cons (g2.mono (s1.trans sm)) .nil))
  split at P
  · obtain ⟨v, rfl, q⟩ := rb.2.one
    cases q with
    | lst h1 h2 =>
      rename_i a us
      exact ⟨a, us, rfl, .inl ⟨SqL.of (E.sub _ _ h1), P.here E ⟨fun _ z => z, ⟨fun H => SqL C.K H a us, _, by rw [enumD_len, ← h2.length]; exact walk_enum, fun H' s => SqL.of (s _ _ h1), fun Hf' H' i x H'' hi s1 s2 y => fin h2 Hf' H' i x H'' s1 s2 y⟩⟩⟩⟩
  · obtain ⟨v, rfl, q⟩ := rb.2.one
    cases q with
    | tup h1 h2 =>
      rename_i a us
      exact ⟨a, us, rfl, .inr ⟨Same.tup E.sub h1, P.here E ⟨fun _ z => z, ⟨fun H => SqT C.K H a us, _, by rw [enumD_len, ← h2.length]; exact walk_enumT, fun H' s => Same.tup s h1, fun Hf' H' i x H'' hi s1 s2 y => fin h2 Hf' H' i x H'' s1 s2 y⟩⟩⟩⟩
  · exact P.elim
theorem zipD_get (a b : List D) (i : Nat) (x y : D) (h1 : a[i]? = some x) (h2 : b[i]? = some y) : (zipD a b)[i]? = some (.tuple [x, y]) := by
  unfold zipD
  have e : (a.zip b)[i]? = some (x, y) := List.getElem?_zip_eq_some.mpr ⟨h1, h2⟩
  rw [List.getElem?_map, e]
  rfl
theorem zipD_len (a b : List D) : (zipD a b).length = min a.length b.length := by unfold zipD; rw [List.length_map, List.length_zip]
def FzM (K : PySem.W.Frag) (t : Bool) (Hf : Hp) (a : Addr) (us : List V) : Prop := match t with
  | true => SqT K Hf a us
  | false => Hf a = some (.lst us)
theorem FzM.mono {K : PySem.W.Frag} {t : Bool} {Hf H' : Hp} {a : Addr} {us : List V} (h : FzM K t Hf a us) (s : Same Hf H') : FzM K t H' a us := by
  cases t with
  | true => exact Same.tup s h
  | false => exact s _ _ h
theorem FzM.sq {K : PySem.W.Frag} {t : Bool} {Hf : Hp} {a : Addr} {us : List V} (h : FzM K t Hf a us) : SqM K t Hf a us := by
  cases t with
  | true => exact h
  | false => exact SqL.of h
theorem seqD_v {K : PySem.W.Frag} {Hf : Hp} {v : V} {d : D} {ds : List D} (h : Dq K Hf v d) (e : seqD d = some ds) : ∃ a t us, v = .ref a ∧ FzM K t Hf a us ∧ DqAll K Hf us ds := by
  cases h with
  | lst h1 h2 => cases e; exact ⟨_, false, _, rfl, h1, h2⟩
  | tup h1 h2 => cases e; exact ⟨_, true, _, rfl, h1, h2⟩
  | _ => cases e
theorem zip_fin {K : PySem.W.Frag} {Hf : Hp} {xs ys : List V} {ds es : List D} (g1 : DqAll K Hf xs ds) (g2 : DqAll K Hf ys es) (Hf' H' : Hp) (i : Nat) (x : V) (H'' : Hp) (s1 : Same Hf Hf') (s2 : Same Hf' H') (y : YPair (fun i => xs[i]?) (fun i => ys[i]?) i H' x H'') :
    ∃ d, (zipD ds es)[i]? = some d ∧ ((H'' = H' ∧ Dq K Hf' x d) ∨ ∃ p o, H' p = none ∧ H'' = upd H' p o ∧ Dq K (upd Hf' p o) x d) := by
  obtain ⟨T, x1, x2, rfl, hT, rfl, e1, e2⟩ := y
  obtain ⟨d1, q1, q2⟩ := g1.get e1
  obtain ⟨d2, q3, q4⟩ := g2.get e2
  have sm : Same Hf' (upd Hf' T (.tup [x1, x2])) := same_upd (same_none s2 hT)
  exact ⟨_, zipD_get _ _ _ _ _ q1 q3, .inr ⟨T, _, hT, rfl, .tup (SqT.of upd_same) (.cons (q2.mono (s1.trans sm)) (.cons (q4.mono (s1.trans sm)) .nil))⟩⟩
theorem snd_zip {C : Ct} {tr : TA} {ms : M (List D)} (h : Snd C relDs tr ms) : Snd C relI (iZipM C.K tr) (mZip ms) := by
  refine Snd.bind (Rel1 := relDs) (t1 := tr) (t2 := fun vs (σ : L2.St) H1 (R : It → Hp → Prop) => ZRes false C.K vs H1 R) h fun Hf H w σ ε S vs rs Q E rb P => ?_
  split at P
  · rename_i d e
    split at P
    · rename_i a b ea eb
      obtain ⟨v, u, rfl, q1, q2⟩ := rb.2.two
      obtain ⟨p, t, us, rfl, f1, g1⟩ := seqD_v q1 ea
      obtain ⟨q, t', ws, rfl, f2, g2⟩ := seqD_v q2 eb
      exact ⟨p, q, t, t', us, ws, rfl, (f1.mono E.sub).sq, (f2.mono E.sub).sq, P.here E ⟨fun _ z => z, ⟨fun H => SqM C.K t H p us ∧ SqM C.K t' H q ws, _, walk_zipM (b := false) (by show _ = _; rw [zipD_len, g1.length, g2.length]), fun H' s => ⟨(f1.mono s).sq, (f2.mono s).sq⟩, fun Hf' H' i x H'' hi s1 s2 y => zip_fin g1 g2 Hf' H' i x H'' s1 s2 y⟩⟩⟩
    · exact P.elim
  · exact P.elim
theorem mi_enum {X : Cx} {C : Ct} {e : Expr} {p pos tpos : Pos} {elts : List Expr} {kk : Nat} {tr : TA} {ms : M (List D)} (hm : X.mg "enumerate" = none) (h : MDs X C [e] tr ms) (hg : Gl X "enumerate" := by rfl) (hs : starEach [e] X.env = [(false, eval e X.env)] := by rfl) :
    MI X C (.Tuple elts kk tpos) (.Call (.Name "enumerate" p) [e] [] pos) (iEnumA C.K tr) (mEnum ms) := ⟨by have q := pi_enumA (tpos := tpos) (pos := pos) (p := p) (elts := elts) (kk := kk) hg hm h.pa hs; rw [h.hK] at q; exact q, snd_enum h.sn, h.hK⟩
theorem mi_zip {X : Cx} {C : Ct} {e e2 : Expr} {p pos tpos : Pos} {elts : List Expr} {kk : Nat} {tr : TA} {ms : M (List D)} (hm : X.mg "zip" = none) (h : MDs X C [e, e2] tr ms) (hg : Gl X "zip" := by rfl) (hs : starEach [e, e2] X.env = (false, eval e X.env) :: starEach [e2] X.env := by rfl)
    (hpl : (backTo pos (starEach [e2] X.env)).any (·.1) = false := by rfl) : MI X C (.Tuple elts kk tpos) (.Call (.Name "zip" p) [e, e2] [] pos) (iZipM C.K tr) (mZip ms) := ⟨by have q := pi_zipM (tpos := tpos) (pos := pos) (p := p) (elts := elts) (kk := kk) hg hm h.pa hs hpl; rw [h.hK] at q; exact q, snd_zip h.sn, h.hK⟩
/-! ### targets -/
section
variable {X : Cx} {C : Ct} {vs : List Nat} {pos : Pos}
theorem mg_nm (i : Nat) {x : Str} (hN : X.N.Nodup) (hi : X.N[i]? = some x := by rfl) (hx : Loc X.env.scope x := by first | exact Or.inl rfl | exact Or.inr rfl) (hf : X.fn x = true ∨ X.env.scope.names.lookup x = some .local := by first | exact .inl rfl | exact .inr rfl)
    (ho : C.own.contains i = false := by rfl) (hv : vs.contains i = true := by rfl) (hK : X.K = C.K := by rfl) : MG X C vs (.Name x pos) (gName i) (.nm i) := ⟨pg_name hN hi hx hf, pat_nm ho hv, hK⟩
theorem mgs_nil (hK : X.K = C.K := by rfl) : MGs X C vs [] gNil [] := ⟨pgs_nil, pats_nil, hK⟩
theorem mgs_cons {e : Expr} {es : List Expr} {g : TG} {gs : TGs} {p : Pat} {ps : List Pat} (h1 : MG X C vs e g p) (h2 : MGs X C vs es gs ps) (hs : (assignEach (e :: es) X.env).map (·.2) = assign e X.env :: (assignEach es X.env).map (·.2) := by rfl) : MGs X C vs (e :: es) (gCons g gs) (p :: ps) := ⟨pgs_cons h1.pg h2.pg hs, pats_cons h1.sn h2.sn, h1.hK⟩
theorem mg_tp {es : List Expr} {k n : Nat} {gs : TGs} {ps : List Pat} (h : MGs X C vs es gs ps) (hn : ps.length = n := by rfl) (hc : X.calm = true := by rfl)
    (hl : (assignEach es X.env).length = n := by rfl) (hst : (assignEach es X.env).findIdx? (·.1) = none := by rfl) : MG X C vs (.Tuple es k pos) (gSeq C.K n gs) (.tp ps) := ⟨by have q := pg_seq (k := k) (pos := pos) hc h.pg hl hst; rw [h.hK] at q; exact q, pat_tp h.sn hn, h.hK⟩
end

/-! ### statements -/
section
variable {X : Cx} {C : Ct} {a b c e : Expr} {te ta tb : TE} {m m1 m2 : M RV} {md : M D} {t1 t2 : TS} {s1 s2 : Sm} {pos : Pos} {st : Stmt} {rest sa sb : List Stmt} {tt : TT} {mc : M Bool}
theorem mss_nil : MSs X C [] tNext sNext := ⟨pss_nil, snds_next⟩
theorem mss_cons (h1 : MS X C st t1 s1) (h2 : MSs X C rest t2 s2) : MSs X C (st :: rest) (tSeq t1 t2) (sSeq s1 s2) := ⟨pss_cons h1.ps h2.ps, snds_seq h1.sn h2.sn⟩
theorem mss_one (h1 : MS X C st t1 s1) : MSs X C [st] t1 s1 := ⟨pss_one h1.ps, h1.sn⟩
theorem ms_ret (h : ME X C e te m) : MS X C (.Return (some e) pos) (tRet te) (sRet m) := ⟨ps_ret h.pe, snds_ret h.sn⟩
theorem ms_if (hc : MT X C c tt mc) (h1 : MSs X C sa t1 s1) (h2 : MSs X C sb t2 s2) : MS X C (.If c sa sb pos) (tIfS tt t1 t2) (sIf mc s1 s2) := ⟨ps_if hc.pt h1.ps h2.ps, snds_if hc.sn h1.sn h2.sn⟩
theorem ms_set (i : Nat) {x : Str} {pos' : Pos} (hN : X.N.Nodup) (h : ME X C e te m) (hi : X.N[i]? = some x := by rfl) (hx : Loc X.env.scope x := by first | exact Or.inl rfl | exact Or.inr rfl) (hs : swapsWith e (some (.Name x pos')) pos.line X.env = pure false := by rfl)
    (hf : X.fn x = true ∨ X.env.scope.names.lookup x = some .local := by first | exact .inl rfl | exact .inr rfl) (ho : C.own.contains i = false := by rfl) : MS X C (.Assign [.Name x pos'] e pos) (tAsg te (gName i)) (sSet i m) := ⟨ps_set hN hi hx h.pe hs hf, snds_set ho h.sn⟩
/-- x = [.. for ..] -/
theorem ms_setLc (i : Nat) {y : Str} {py pos' : Pos} {elt tg iter : Expr} {ifs : List Expr} {scope : Scope} {own : List (Str × Nat)} {wi : TI} {g : TG} {te' : TE} {mi : M (List D)} {p : Pat} {mm : M D} (vs : List Nat) (ok : BlkOk X.N X.env.scope scope own) (hN : X.N.Nodup) (hi : MI X C tg iter wi mi)
    (hv : ∀ i, vs.contains i = true → C.own.contains i = false)
    (hg : ∀ (s : Shared) (H : Hp) (A : Addr) (cl : List (Str × Addr)) (fp : List Addr), MG (X.blk s H scope (compEnvC scope cl A X.env) fp) ⟨C.K, C.own, C.vs, noW⟩ vs tg g p)
    (ht : ∀ (s : Shared) (H : Hp) (A : Addr) (cl : List (Str × Addr)) (fp : List Addr), PTs (X.blk s H scope (compEnvC scope cl A X.env) fp) ifs tt ∧ Snd ⟨C.K, C.own, C.vs, noW⟩ relB tt mc)
    (he : ∀ (s : Shared) (H : Hp) (A : Addr) (cl : List (Str × Addr)) (fp : List Addr), MD (X.blk s H scope (compEnvC scope cl A X.env) fp) ⟨C.K, C.own, C.vs, noW⟩ elt te' mm)
    (hy : X.N[i]? = some y := by rfl) (hyl : X.env.scope.names.lookup y = some .local := by rfl) (hsw : swapsWith (.ListComp elt [⟨tg, iter, ifs, 0⟩] scope pos') (some (.Name y py)) pos.line X.env = pure true := by exact sw_true rfl rfl rfl rfl)
    (hvs : own.map (·.2) = vs := by rfl) (hc : X.calm = true := by rfl) (hs : ∀ x, foldedSetIterable iter X.env x = pure x := by intro _; rfl) (ho : C.own.contains i = false := by rfl) : MS X C (.Assign [.Name y py] (.ListComp elt [⟨tg, iter, ifs, 0⟩] scope pos') pos) (tAsg (tLc wi g tt te' vs) (gName i)) (sSet i (mLc mi p vs mc mm)) := by
  have gs := (hg X.s_0 X.H_0 0 [] []).sn
  refine ⟨?_, snds_set ho (snd_lc (C' := ⟨C.K, C.own, C.vs, noW⟩) hv rfl rfl rfl hi.sn gs (ht X.s_0 X.H_0 0 [] []).2 (he X.s_0 X.H_0 0 [] []).sn)⟩
  have q := ps_setLc (py := py) (spos := pos) (pos := pos') hc hN hy hyl hsw hi.pi ok (fun s H A cl fp => (hg s H A cl fp).pg) (fun s H A cl fp => (ht s H A cl fp).1) (fun s H A cl fp => (he s H A cl fp).pe) hs
  rw [hvs] at q
  exact q
theorem ms_for {tg iter : Expr} {body : List Stmt} {wi : TI} {g : TG} {mi : M (List D)} {p : Pat} (vs : List Nat) (hp : PassesOwn (model X.prog X.w) X.A X.env X.xe) (hi : MI X C tg iter wi mi) (hg : MG X C vs tg g p) (hb : MSs X C body t1 s1) (hc : X.calm = true := by rfl)
    (hs : ∀ x, foldedSetIterable iter X.env x = pure x := by intro _; rfl) : MS X C (.For tg iter body [] pos) (tFor wi g t1) (sFor mi p s1) := ⟨ps_for hp hc hi.pi hg.pg hb.ps hs, snds_for hi.sn hg.sn hb.sn⟩
/-- a, b = e -/
def sUnp (m : M D) (p : Pat) : Sm := fun ε => (m ε).toS fun d ε1 => match bindP p d ε1 with
  | some ε2 => .nx ε2
  | none => .bad
theorem ms_unp {tg : Expr} {g : TG} {p : Pat} (vs : List Nat) (h : MD X C e te md) (hg : MG X C vs tg g p) (hs : swapsWithSole [tg] e pos.line X.env = pure false := by rfl) (hw : swappedStores [tg] e X.env = pure none := by rfl)
    (h1 : (assignEach [tg] X.env).map (·.2) = [assign tg X.env] := by rfl) : MS X C (.Assign [tg] e pos) (tAsg te g) (sUnp md p) := by
  refine ⟨ps_asg h.pe hg.pg hs hw h1, fun Hf H w σ ε D E P => ?_⟩
  refine h.sn.toS E P fun d ε1 Hf1 H1 w1 S b _ E1 st1 r P1 => ?_
  split at P1
  · rename_i ε2 e2
    have P2 := PostS.step st1.noS P1
    exact hg.sn Hf1 H1 w1 σ ε1 b d ε2 _ E1 r.2 e2 fun σ' w' E' st' _ => P2 Hf1 H1 w' σ' E' st'
  · exact P1.elim
theorem ms_append {x : Str} {px apos cpos : Pos} (i : Nat) (ha : MDs X C [e] (tCons ta tNil) (dsCons md dsNil)) (h : MD X C e ta md) (hN : X.N[i]? = some x := by rfl) (hv : Vis X.env.scope x := by first | exact Or.inl rfl | exact Or.inr (Or.inl rfl) | exact Or.inr (Or.inr rfl)) (hd : (x == ("__debug__" : Str)) = false := by decide)
    (hcd : (x == ("__classdict__" : Str)) = false := by decide)
    (hfew : ((backTo cpos (starEach (e :: []) X.env)).all (fun x => !x.1) && (backToKw cpos (keywordEach [] X.env)).all (fun x => x.1.isSome)
      && decide ((e :: []).length + ([] : List Keyword).length + (if ([] : List Keyword).isEmpty then 0 else 1) < 30)) = true := by rfl)
    (hline : (apos.endLine == cpos.line) = true := by rfl) (hst : starEach (e :: []) X.env = (false, eval e X.env) :: starEach [] X.env := by rfl) (hplain : (backTo cpos (starEach [] X.env)).any (·.1) = false := by rfl)
    (hs : swapsWith (.Call (.Attribute (.Name x px) "append" apos) [e] [] cpos) none pos.line X.env = pure false := by rfl) :
    MS X C (.Expr (.Call (.Attribute (.Name x px) "append" apos) [e] [] cpos) pos) (tDrop (tBM C.K "list" rAppend (tVar i) (tCons ta tNil))) (sAppend i md) := by
  refine ⟨?_, snds_append h.sn⟩
  have q := pe_bm (apos := apos) (cpos := cpos) PySem.F.plainAttrs_list PySem.F.slot_list_append PySem.F.type_list_append mt_append (pe_var (pos := px) hN hv hd hcd) ha.pa rfl hfew hline hst hplain
  rw [h.hK] at q
  exact ps_expr q hs
theorem ms_setItem {x : Str} {px tpos : Pos} {k : Expr} {tk : TE} {mk : M RV} (i : Nat) (h : MD X C e te md) (hk : MO X C k tk mk) (hN : X.N[i]? = some x := by rfl) (hv : Vis X.env.scope x := by first | exact Or.inl rfl | exact Or.inr (Or.inl rfl) | exact Or.inr (Or.inr rfl)) (hd : (x == ("__debug__" : Str)) = false := by decide)
    (hcd : (x == ("__classdict__" : Str)) = false := by decide)
    (ha : ∀ v, assign (.Subscript (.Name x px) k tpos) X.env v = (do
      let ov ← holding [v] (eval (.Name x px) X.env)
      let iv ← holding [v, ov] (eval k X.env)
      standAt tpos
      holding [v, ov, iv] (setItem ov iv v)
      release [v, ov, iv] []) := by intro _; rfl)
    (hs : swapsWithSole [.Subscript (.Name x px) k tpos] e pos.line X.env = pure false := by rfl) (hw : swappedStores [.Subscript (.Name x px) k tpos] e X.env = pure none := by rfl)
    (h1 : (assignEach [.Subscript (.Name x px) k tpos] X.env).map (·.2) = [assign (.Subscript (.Name x px) k tpos) X.env] := by rfl) :
    MS X C (.Assign [.Subscript (.Name x px) k tpos] e pos) (tAsg te (gSub (tVar i) tk rSetL)) (sSetItem i mk md) :=
  ⟨ps_asg h.pe (pg_sub (pe_var hN hv hd hcd) hk.pe set_list ha) hs hw h1, snds_setItem h.sn hk.sn⟩
end
end M3

namespace M3
open PySem PySem.Spec L2
open PyProof.Rows hiding St

/-! ### set(list of whole numbers and texts), and how many stand in it -/
def memK (k : Key) (l : List Key) : Bool := l.any fun x => decide (x = k)
theorem memK_iff {k : Key} {l : List Key} : memK k l = true ↔ k ∈ l := by
  unfold memK
  rw [List.any_eq_true]
  constructor
  · rintro ⟨x, h1, h2⟩
    rw [← of_decide_eq_true h2]; exact h1
  · exact fun h => ⟨k, h, decide_eq_true rfl⟩
def stK (acc : List Key) (v : Key) : List Key := if memK v acc = true then acc else acc ++ [v]
def ddK (ks : List Key) : List Key := ks.foldl stK []
/-- the first i keys, each of them once -/
def upTo (ks : List Key) (i : Nat) : List Key := ddK (ks.take i)
theorem upTo_succ {ks : List Key} {i : Nat} {k : Key} (h : ks[i]? = some k) : upTo ks (i + 1) = stK (upTo ks i) k := by
  unfold upTo ddK
  rw [List.take_add_one, h, List.foldl_append]
  rfl
theorem foldK_le : ∀ (ks acc : List Key), (ks.foldl stK acc).length ≤ acc.length + ks.length
  | [], _ => Nat.le_refl _
  | k :: ks, acc => by
    have one : (stK acc k).length ≤ acc.length + 1 := by
      unfold stK
      split <;> simp
    have more := foldK_le ks (stK acc k)
    rw [List.foldl_cons, List.length_cons]
    omega
theorem ddK_le (ks : List Key) : (ddK ks).length ≤ ks.length := by
  have z := foldK_le ks []
  rw [List.length_nil, Nat.zero_add] at z
  exact z
theorem upTo_le (ks : List Key) (i : Nat) : (upTo ks i).length ≤ i := Nat.le_trans (ddK_le _) (by simp; omega)
theorem upTo_all {ks : List Key} {i : Nat} (h : ks.length = i) : upTo ks i = ddK ks := by
  unfold upTo
  rw [← h, List.take_length]
theorem stepK_any (σ : List Key) (v k : Key) : memK k (stK σ v) = (memK k σ || decide (k = v)) := by
  rw [Bool.eq_iff_iff, Bool.or_eq_true, memK_iff, memK_iff, decide_eq_true_iff]
  unfold stK
  by_cases h : memK v σ = true
  · rw [if_pos h]
    exact ⟨.inl, fun q => q.elim id fun e => by rw [e]; exact memK_iff.mp h⟩
  · rw [if_neg h]
    simp
theorem stepK_length (σ : List Key) (v : Key) : (stK σ v).length = if memK v σ = true then σ.length else σ.length + 1 := by
  unfold stK
  split <;> simp
/-- a set of keys at an address -/
abbrev KeysAt (prog : Program) (w : World) (h : Heap) (a : Addr) (l : List Key) : Prop := h.SetOf (mixKind prog w) a (fun k => memK k l) l.length
theorem KeysAt.move {prog : Program} {w : World} {h h' : Heap} {a : Addr} {l : List Key} (q : KeysAt prog w h a l) (e : ∀ o, h.get? a = some o → h'.get? a = some o) : KeysAt prog w h' a l :=
  let ⟨o, es, ep, t, ho, rest⟩ := q
  ⟨o, es, ep, t, e o ho, rest⟩
section
variable {prog : Program} {w : World} {A : Around} {R : Result → Shared → Prop} {I : Addr} {fp wr : List Addr} {G : Array GenState → Array GenState → Prop} {n : Nat} {P : Nat → Value → Prop} {St : Nat → Shared → Prop}
end
section
open PySem.F
variable {prog : Program} {w : World} {A : Around} {E : Value → Shared → Prop} {s : Shared}
/-- a set in which nothing is yet -/
abbrev bareSet (led : Bool) : Obj := { cls := .type "set", dict := none, data := .set #[] 0 (.fresh 0 0 led) }
end
end M3

namespace M3
open PySem PySem.Spec L2
open PyProof.Rows hiding St

section
variable {C : Ct} {Hf H : Hp} {v : V}
theorem Vw.int {i : Int} (h : Vw C Hf H v (.int i)) : v = .int i := by cases (show Dq C.K Hf v (.int i) from h); rfl
theorem Vw.str {i : Str} (h : Vw C Hf H v (.str i)) : v = .str i := by cases (show Dq C.K Hf v (.str i) from h); rfl
theorem Vw.bl {i : Bool} (h : Vw C Hf H v (.bool i)) : v = .bl i := by cases (show Dq C.K Hf v (.bool i) from h); rfl
theorem Vw.lst {ds : List D} (h : Vw C Hf H v (.list ds)) : ∃ p vs, v = .ref p ∧ H p = some (.lst vs) ∧ DqAll C.K Hf vs ds := h
theorem Vw.tup {ds : List D} (h : Vw C Hf H v (.tuple ds)) (s : Same Hf H) : ∃ p vs, v = .ref p ∧ SqT C.K H p vs ∧ DqAll C.K Hf vs ds ∧ Dq C.K Hf v (.tuple ds) := by
  have q : Dq C.K Hf v (.tuple ds) := h
  cases q with
  | tup h1 h2 => exact ⟨_, _, rfl, Same.tup s h1, h2, .tup h1 h2⟩
end

/-! ### unions -/
def rOr (r1 r2 : R2) : R2 := fun x y H Q => r1 x y H Q ∨ r2 x y H Q
theorem opr_or {X : Cx} {f : Value → Value → Sem Value} {r1 r2 : R2} (h1 : OpR X f r1) (h2 : OpR X f r2) : OpR X f (rOr r1 r2) := by
  intro pins s σ H x y v u Q I rx ry h
  rcases h with h | h
  · exact h1 pins s σ H x y v u Q I rx ry h
  · exact h2 pins s σ H x y v u Q I rx ry h
def rOrC (r1 r2 : List V → Hp → VK → Prop) : List V → Hp → VK → Prop := fun xs H Q => r1 xs H Q ∨ r2 xs H Q
theorem callr_or {X : Cx} {f : Value} {r1 r2 : List V → Hp → VK → Prop} (h1 : CallR X f r1) (h2 : CallR X f r2) : CallR X f (rOrC r1 r2) := by
  intro pins s σ H xs us Q I r h
  rcases h with h | h
  · exact h1 pins s σ H xs us Q I r h
  · exact h2 pins s σ H xs us Q I r h
def rOrS (r1 r2 : V → Option Int → Option Int → Hp → VK → Prop) : V → Option Int → Option Int → Hp → VK → Prop := fun x l h H Q => r1 x l h H Q ∨ r2 x l h H Q
theorem slr_or {X : Cx} {r1 r2 : V → Option Int → Option Int → Hp → VK → Prop} (h1 : SlR X r1) (h2 : SlR X r2) : SlR X (rOrS r1 r2) := by
  intro pins s σ H x v vl vu lo hi sl Q I rx hs pl pu h
  rcases h with h | h
  · exact h1 pins s σ H x v vl vu lo hi sl Q I rx hs pl pu h
  · exact h2 pins s σ H x v vl vu lo hi sl Q I rx hs pl pu h

/-! ### + - * // % ** -/
def bI (b : Bool) : Int := if b = true then 1 else 0
def gAdd : D → D → Option Out
  | .int i, .int j => some (.val (.int (i + j)))
  | .bool i, .int j => some (.val (.int (bI i + j)))
  | .int i, .bool j => some (.val (.int (i + bI j)))
  | .str a, .str b => if a.length + b.length ≤ sizeLine then some (.val (.str (a ++ b))) else none
  | .list xs, .list ys => if xs.length + ys.length ≤ sizeLine then some (.newl (xs ++ ys)) else none
  | .tuple xs, .tuple ys => if xs.length + ys.length ≤ sizeLine then (if xs = [] then some (.val (.tuple ys)) else if ys = [] then some (.val (.tuple xs)) else some (.newt (xs ++ ys))) else none
  | _, _ => none
def rBI (f : Int → Int → Int) : R2 := fun x y H Q => (∃ a j, x = .bl a ∧ y = .int j ∧ Q (.int (f (bI a) j)) H) ∨ ∃ i b, x = .int i ∧ y = .bl b ∧ Q (.int (f i (bI b))) H
theorem op_add_bi {X : Cx} : OpR X (binaryOp .Add) (rBI fun i j => i + j) := by
  intro pins s σ H x y v u Q I rx ry h
  rcases h with ⟨a, j, rfl, rfl, q⟩ | ⟨i, b, rfl, rfl, q⟩
  · cases rx
    obtain ⟨t, rfl⟩ := ry
    exact PySem.IntBool.add_bool_int ⟨.int _, H, I.tok _, ⟨_, rfl⟩, q⟩
  · obtain ⟨t, rfl⟩ := rx
    cases ry
    exact add_int_bool ⟨.int _, H, I.tok _, ⟨_, rfl⟩, q⟩
theorem op_sub_bi {X : Cx} : OpR X (binaryOp .Sub) (rBI fun i j => i - j) := by
  intro pins s σ H x y v u Q I rx ry h
  rcases h with ⟨a, j, rfl, rfl, q⟩ | ⟨i, b, rfl, rfl, q⟩
  · cases rx
    obtain ⟨t, rfl⟩ := ry
    exact PySem.IntBool.sub_bool_int ⟨.int _, H, I.tok _, ⟨_, rfl⟩, q⟩
  · obtain ⟨t, rfl⟩ := rx
    cases ry
    exact PySem.IntBool.sub_int_bool ⟨.int _, H, I.tok _, ⟨_, rfl⟩, q⟩
def rAddX (K : PySem.W.Frag) : R2 := rOr (rBI fun i j => i + j) <| rOr (rI0 fun i j => .int (i + j)) (rOr (fun x y H Q => ∃ i j, x = .str i ∧ y = .str j ∧ i.length + j.length ≤ sizeLine ∧ Q (.str (i ++ j)) H) (rOr rCat (rCatA K)))
theorem op_addX {X : Cx} {C : Ct} (hK : X.K = C.K) : OpR X (binaryOp .Add) (rAddX C.K) := by rw [← hK]; exact opr_or op_add_bi (opr_or op_add (opr_or op_add_str (opr_or op_cat op_catA)))
theorem ops_add {C : Ct} : OpS C (rAddX C.K) gAdd := by
  intro Hf H x y d e Q sm h1 h2 P
  unfold gAdd at P
  split at P
  · exact .inr (.inl ⟨_, _, h1.int, h2.int, P _ (.int _)⟩)
  · exact .inl (.inl ⟨_, _, h1.bl, h2.int, P _ (.int _)⟩)
  · exact .inl (.inr ⟨_, _, h1.int, h2.bl, P _ (.int _)⟩)
  · split at P
    · rename_i hz
      exact .inr (.inr (.inl ⟨_, _, h1.str, h2.str, hz, P _ (.str _)⟩))
    · exact P.elim
  · split at P
    · rename_i hz
      obtain ⟨p, vs, rfl, a1, a2⟩ := h1.lst
      obtain ⟨q, us, rfl, b1, b2⟩ := h2.lst
      exact .inr (.inr (.inr (.inl ⟨p, q, vs, us, rfl, rfl, a1, b1, by rw [a2.length, b2.length]; exact hz, fun r hr => P r _ hr (a2.append b2)⟩)))
    · exact P.elim
  · rename_i xs ys
    split at P
    · rename_i hz
      obtain ⟨p, vs, rfl, a1, a2, a3⟩ := h1.tup sm
      obtain ⟨q, us, rfl, b1, b2, b3⟩ := h2.tup sm
      have nil : ∀ {vs : List V} {ds : List D}, DqAll C.K Hf vs ds → (vs = [] ↔ ds = []) := fun {vs ds} h => by
        have := h.length
        cases vs <;> cases ds <;> simp_all
      refine .inr (.inr (.inr (.inr ⟨p, q, vs, us, rfl, rfl, a1, b1, by rw [a2.length, b2.length]; exact hz, fun e => ?_, fun e1 e2 => ?_, fun e1 e2 r hr => ?_⟩)))
      · rw [if_pos ((nil a2).mp e)] at P
        exact P _ b3
      · rw [if_neg (fun z => e1 ((nil a2).mpr z)), if_pos ((nil b2).mp e2)] at P
        exact P _ a3
      · rw [if_neg (fun z => e1 ((nil a2).mpr z)), if_neg (fun z => e2 ((nil b2).mpr z))] at P
        exact P r _ hr (a2.append b2)
    · exact P.elim
  · exact P.elim
def gSub : D → D → Option Out
  | .int i, .int j => some (.val (.int (i - j)))
  | .bool i, .int j => some (.val (.int (bI i - j)))
  | .int i, .bool j => some (.val (.int (i - bI j)))
  | _, _ => none
def rSubX : R2 := rOr (rBI fun i j => i - j) (rI0 fun i j => .int (i - j))
theorem op_subX {X : Cx} : OpR X (binaryOp .Sub) rSubX := opr_or op_sub_bi op_sub
theorem ops_sub {C : Ct} : OpS C rSubX gSub := by
  intro Hf H x y d e Q sm h1 h2 P
  unfold gSub at P
  split at P
  · exact .inr ⟨_, _, h1.int, h2.int, P _ (.int _)⟩
  · exact .inl (.inl ⟨_, _, h1.bl, h2.int, P _ (.int _)⟩)
  · exact .inl (.inr ⟨_, _, h1.int, h2.bl, P _ (.int _)⟩)
  · exact P.elim
instance (i j : Int) : Decidable (CMul i j) := inferInstanceAs (Decidable (_ ∨ _))
def gMul : D → D → Option Out
  | .int i, .int j => if CMul i j then some (.val (.int (i * j))) else none
  | .list xs, .int k => if -(2 ^ 63) ≤ k ∧ k < 2 ^ 63 ∧ xs.length * k.toNat ≤ sizeLine then some (.newl (List.replicate k.toNat xs).flatten) else none
  | _, _ => none
def rMulX : R2 := rOr (rI CMul fun i j => .int (i * j)) rRep
theorem op_mulXX {X : Cx} : OpR X (binaryOp .Mult) rMulX := opr_or op_mul op_rep
theorem DqAll.rep {K : PySem.W.Frag} {H : Hp} {vs : List V} {ds : List D} (h : DqAll K H vs ds) : ∀ n : Nat, DqAll K H (List.replicate n vs).flatten (List.replicate n ds).flatten
  | 0 => .nil
  | n + 1 => by
    rw [List.replicate_succ, List.replicate_succ, List.flatten_cons, List.flatten_cons]
    exact h.append (DqAll.rep h n)
theorem ops_mul {C : Ct} : OpS C rMulX gMul := by
  intro Hf H x y d e Q sm h1 h2 P
  unfold gMul at P
  split at P
  · split at P
    · rename_i hz
      exact .inl ⟨_, _, h1.int, h2.int, hz, P _ (.int _)⟩
    · exact P.elim
  · split at P
    · rename_i hz
      obtain ⟨p, vs, rfl, a1, a2⟩ := h1.lst
      exact .inr ⟨p, _, vs, rfl, h2.int, a1, hz.1, hz.2.1, by rw [a2.length]; exact hz.2.2, fun r hr => P r _ hr (a2.rep _)⟩
    · exact P.elim
  · exact P.elim
def gDiv : D → D → Option Out
  | .int i, .int j => if 0 < j ∧ j.natAbs.log2 < 9000 then some (.val (.int (i / j))) else none
  | _, _ => none
theorem ops_div {C : Ct} : OpS C (rI CDivW fun i j => .int (i / j)) gDiv := by
  intro Hf H x y d e Q sm h1 h2 P
  unfold gDiv at P
  split at P
  · split at P
    · rename_i hz
      exact ⟨_, _, h1.int, h2.int, hz, P _ (.int _)⟩
    · exact P.elim
  · exact P.elim
def gMod : D → D → Option Out
  | .int i, .int j => if 0 < j then some (.val (.int (i % j))) else none
  | _, _ => none
theorem ops_mod {C : Ct} : OpS C (rI (fun _ j => 0 < j) fun i j => .int (i % j)) gMod := by
  intro Hf H x y d e Q sm h1 h2 P
  unfold gMod at P
  split at P
  · split at P
    · rename_i hz
      exact ⟨_, _, h1.int, h2.int, hz, P _ (.int _)⟩
    · exact P.elim
  · exact P.elim
def gPow : D → D → Option Out
  | .int i, .int j => if 0 ≤ j ∧ j ≤ 1000000 ∧ i.natAbs < 2 ^ 64 then some (.val (.int (i ^ j.toNat))) else none
  | _, _ => none
theorem ops_pow {C : Ct} : OpS C (rI CPow fun i j => .int (i ^ j.toNat)) gPow := by
  intro Hf H x y d e Q sm h1 h2 P
  unfold gPow at P
  split at P
  · split at P
    · rename_i hz
      exact ⟨_, _, h1.int, h2.int, hz, P _ (.int _)⟩
    · exact P.elim
  · exact P.elim
def gNeg : D → Option Out
  | .int i => some (.val (.int (-i)))
  | _ => none
theorem uns_neg {C : Ct} : UnS C (rU fun i => .int (-i)) gNeg := by
  intro Hf H x d Q sm h P
  unfold gNeg at P
  split at P
  · exact ⟨_, h.int, P _ (.int _)⟩
  · exact P.elim

/-! ### comparisons -/
def gI (p : Int → Int → Bool) : D → D → Option Bool
  | .int i, .int j => some (p i j)
  | _, _ => none
theorem ops_gI {C : Ct} {p : Int → Int → Bool} : OpS C (rI0 fun i j => .bl (p i j)) (bo (gI p)) := by
  intro Hf H x y d e Q sm h1 h2 P
  unfold bo gI at P
  split at P
  · exact ⟨_, _, h1.int, h2.int, P _ (.bl _)⟩
  · exact P.elim
abbrev gLt := gI fun i j => decide (i < j)
abbrev gGt := gI fun i j => decide (j < i)
abbrev gGe := gI fun i j => decide (j ≤ i)
def eqStr : D → D → Option Bool
  | .str a, .str b => some (a == b)
  | _, _ => none
def gEq (d e : D) : Option Bool := if SeqAt.shaped d = true ∧ SeqAt.shaped e = true then some (PyData.eqv d e) else eqStr d e
def gNe (d e : D) : Option Bool := if SeqAt.shaped d = true ∧ SeqAt.shaped e = true then some (!PyData.eqv d e) else (eqStr d e).map not
def rEqX (K : PySem.W.Frag) : R2 := rOr (rEqD K) rEq
def rNeX (K : PySem.W.Frag) : R2 := rOr (rNeD K) rNe
theorem ops_eq {C : Ct} : OpS C (rEqX C.K) (bo gEq) := by
  intro Hf H x y d e Q sm h1 h2 P
  unfold bo gEq at P
  split at P
  · rename_i hz
    exact .inl ⟨d, e, (h1.dq sm).dp, (h2.dq sm).dp, hz.1, hz.2, P _ (.bl _)⟩
  · unfold eqStr at P
    split at P
    · refine .inr ?_
      rw [h1.str, h2.str]
      exact ⟨rfl, by rw [dec_str]; exact P _ (.bl _)⟩
    · exact P.elim
theorem ops_ne {C : Ct} : OpS C (rNeX C.K) (bo gNe) := by
  intro Hf H x y d e Q sm h1 h2 P
  unfold bo gNe at P
  split at P
  · rename_i hz
    exact .inl ⟨d, e, (h1.dq sm).dp, (h2.dq sm).dp, hz.1, hz.2, P _ (.bl _)⟩
  · unfold eqStr at P
    split at P
    · refine .inr ?_
      rw [h1.str, h2.str]
      exact ⟨rfl, by rw [dec_str]; exact P _ (.bl _)⟩
    · exact P.elim
theorem op_eqK {X : Cx} {C : Ct} {k : Nat} (hK : X.K = C.K) (hr : Room k X.A) : OpR X (compareOp .Eq) (rEqX C.K) := by rw [← hK]; exact opr_or (op_eqD hr.units) op_eq
theorem op_neK {X : Cx} {C : Ct} {k : Nat} (hK : X.K = C.K) (hr : Room k X.A) : OpR X (compareOp .NotEq) (rNeX C.K) := by rw [← hK]; exact opr_or (op_neD hr.units) op_ne
/-- in: lists of data, a sign in a text -/
def gIn : D → D → Option Bool
  | d, .list ds => if SeqAt.shaped d = true ∧ SeqAt.shaped (.list ds) = true then some (ds.any fun z => PyData.eqv z d) else none
  | d, .tuple ds => if SeqAt.shaped d = true ∧ SeqAt.shaped (.tuple ds) = true then some (ds.any fun z => PyData.eqv z d) else none
  | .str ⟨⟨[c]⟩⟩, .str z => some (decide (c ∈ z.cps.toList))
  | _, _ => none
def gNotIn (d e : D) : Option Bool := (gIn d e).map not
/-- x in a tuple of data -/
def rInT (K : PySem.W.Frag) : R2 := fun x y H Q => ∃ d ds, Dp K H x d ∧ Dp K H y (.tuple ds) ∧ SeqAt.shaped d = true ∧ SeqAt.shaped (.tuple ds) = true ∧ Q (.bl (ds.any fun z => PyData.eqv z d)) H
def rNotInT (K : PySem.W.Frag) : R2 := fun x y H Q => ∃ d ds, Dp K H x d ∧ Dp K H y (.tuple ds) ∧ SeqAt.shaped d = true ∧ SeqAt.shaped (.tuple ds) = true ∧ Q (.bl (!ds.any fun z => PyData.eqv z d)) H
theorem lay_tup {ds : List D} (h : SeqAt.shaped (.tuple ds) = true) : PyData.canLayAll0 ds = true := by
  unfold SeqAt.shaped at h
  have h1 := (Bool.and_eq_true_iff.mp h).1
  unfold PyData.canLay0 at h1
  exact h1
theorem op_inT {X : Cx} (hu : X.A.units + 65 < cLine) : OpR X (compareOp .In) (rInT X.K) := by
  intro pins s σ H x y v u Q I rx ry h
  obtain ⟨d, ds, hd, he, sd, se, q⟩ := h
  have r1 := (Dp.reads I d x v hd rx).choose_spec
  have r2 := (Dp.reads I (.tuple ds) y u he ry).choose_spec
  exact SeqAt.in_tuple_reads r2 r1 (lay_tup se) (SeqAt.canLay_of_shaped sd) (room_in_shaped sd hu) ⟨.bl _, H, I, rfl, q⟩
theorem op_notInT {X : Cx} (hu : X.A.units + 65 < cLine) : OpR X (compareOp .NotIn) (rNotInT X.K) := by
  intro pins s σ H x y v u Q I rx ry h
  obtain ⟨d, ds, hd, he, sd, se, q⟩ := h
  have r1 := (Dp.reads I d x v hd rx).choose_spec
  have r2 := (Dp.reads I (.tuple ds) y u he ry).choose_spec
  exact SeqAt.notIn_tuple_reads r2 r1 (lay_tup se) (SeqAt.canLay_of_shaped sd) (room_in_shaped sd hu) ⟨.bl _, H, I, rfl, q⟩
def rInX (K : PySem.W.Frag) : R2 := rOr (rOr (rInD K) (rInT K)) (fun x y H Q => ∃ (c : Nat) (z : Str), x = .str ⟨#[c]⟩ ∧ y = .str z ∧ Q (.bl (decide (c ∈ z.cps.toList))) H)
def rNotInX (K : PySem.W.Frag) : R2 := rOr (rOr (rNotInD K) (rNotInT K)) (fun x y H Q => ∃ (c : Nat) (z : Str), x = .str ⟨#[c]⟩ ∧ y = .str z ∧ Q (.bl (!decide (c ∈ z.cps.toList))) H)
theorem hu65 {A : Around} {k : Nat} (hr : Room k A) : A.units + 65 < cLine := by have := hr.un; omega
theorem op_inX {X : Cx} {C : Ct} {k : Nat} (hK : X.K = C.K) (hr : Room k X.A) : OpR X (compareOp .In) (rInX C.K) := by rw [← hK]; exact opr_or (opr_or (op_inD (hu65 hr)) (op_inT (hu65 hr))) op_in_sign
theorem op_notInX {X : Cx} {C : Ct} {k : Nat} (hK : X.K = C.K) (hr : Room k X.A) : OpR X (compareOp .NotIn) (rNotInX C.K) := by rw [← hK]; exact opr_or (opr_or (op_notInD (hu65 hr)) (op_notInT (hu65 hr))) op_notIn_sign
theorem ops_in {C : Ct} : OpS C (rInX C.K) (bo gIn) := by
  intro Hf H x y d e Q sm h1 h2 P
  unfold bo gIn at P
  split at P
  · split at P
    · rename_i hz
      exact .inl (.inl ⟨d, _, (h1.dq sm).dp, (h2.dq sm).dp, hz.1, hz.2, P _ (.bl _)⟩)
    · exact P.elim
  · split at P
    · rename_i hz
      exact .inl (.inr ⟨d, _, (h1.dq sm).dp, (h2.dq sm).dp, hz.1, hz.2, P _ (.bl _)⟩)
    · exact P.elim
  · exact .inr ⟨_, _, h1.str, h2.str, P _ (.bl _)⟩
  · exact P.elim
theorem ops_notIn {C : Ct} : OpS C (rNotInX C.K) (bo gNotIn) := by
  intro Hf H x y d e Q sm h1 h2 P
  unfold bo gNotIn gIn at P
  split at P
  · split at P
    · rename_i hz
      exact .inl (.inl ⟨d, _, (h1.dq sm).dp, (h2.dq sm).dp, hz.1, hz.2, P _ (.bl _)⟩)
    · exact P.elim
  · split at P
    · rename_i hz
      exact .inl (.inr ⟨d, _, (h1.dq sm).dp, (h2.dq sm).dp, hz.1, hz.2, P _ (.bl _)⟩)
    · exact P.elim
  · exact .inr ⟨_, _, h1.str, h2.str, P _ (.bl _)⟩
  · exact P.elim
/-- is None -/
def isNoneD : D → Bool
  | .none => true
  | _ => false
def gIsN : D → D → Option Bool
  | d, .none => some (isNoneD d)
  | _, _ => none
def gNotN : D → D → Option Bool
  | d, .none => some (!isNoneD d)
  | _, _ => none
theorem vw_non {C : Ct} {Hf H : Hp} {v : V} {d : D} (h : Vw C Hf H v d) : decide (v = .non) = isNoneD d := by
  cases d with
  | list ds => obtain ⟨p, vs, rfl, _⟩ := h; rfl
  | _ =>
    have q : Dq C.K Hf v _ := h
    cases q <;> rfl
theorem ops_isN {C : Ct} : OpS C (fun x y H Q => y = .non ∧ Q (.bl (decide (x = .non))) H) (bo gIsN) := by
  intro Hf H x y d e Q sm h1 h2 P
  unfold bo gIsN at P
  split at P
  · cases (show Dq C.K Hf y .none from h2)
    exact ⟨rfl, P _ (by rw [vw_non h1]; exact .bl _)⟩
  · exact P.elim
theorem ops_notN {C : Ct} : OpS C (fun x y H Q => y = .non ∧ Q (.bl (!decide (x = .non))) H) (bo gNotN) := by
  intro Hf H x y d e Q sm h1 h2 P
  unfold bo gNotN at P
  split at P
  · cases (show Dq C.K Hf y .none from h2)
    exact ⟨rfl, P _ (by rw [vw_non h1]; exact .bl _)⟩
  · exact P.elim

/-! ### subscripts, slices -/
def gIx : D → D → Option Out
  | .list ds, .int i => (atI ds i).map .val
  | .tuple ds, .int i => (atI ds i).map .val
  | .str z, .int i => if z.length ≤ sizeLine then (atI z.cps.toList i).map fun c => .val (.str ⟨#[c]⟩) else none
  | _, _ => none
theorem DqAll.atI {K : PySem.W.Frag} {H : Hp} {vs : List V} {ds : List D} {i : Int} {d : D} (h : DqAll K H vs ds) (e : L2.atI ds i = some d) : ∃ v, L2.atI vs i = some v ∧ Dq K H v d := by
  unfold L2.atI at e ⊢
  rw [h.length]
  cases q : ixN ds.length i with
  | none => rw [q] at e; cases e
  | some j => rw [q] at e; exact h.getD e
theorem op_ixK {X : Cx} {C : Ct} (hK : X.K = C.K) : IxR X (rIx C.K) := by rw [← hK]; exact ix_seq
theorem ops_ix {C : Ct} : OpS C (rIx C.K) gIx := by
  intro Hf H x y d e Q sm h1 h2 P
  unfold gIx at P
  split at P
  · rename_i ds i
    cases q : L2.atI ds i with
    | none => rw [q] at P; exact P.elim
    | some z =>
      rw [q] at P
      obtain ⟨p, vs, rfl, a1, a2⟩ := h1.lst
      obtain ⟨v, g1, g2⟩ := a2.atI q
      exact .inl ⟨p, vs, i, v, rfl, h2.int, SqL.of a1, g1, P v g2⟩
  · rename_i ds i
    cases q : L2.atI ds i with
    | none => rw [q] at P; exact P.elim
    | some z =>
      rw [q] at P
      obtain ⟨p, vs, rfl, a1, a2, _⟩ := h1.tup sm
      obtain ⟨v, g1, g2⟩ := a2.atI q
      exact .inr (.inl ⟨p, vs, i, v, rfl, h2.int, a1, g1, P v g2⟩)
  · rename_i z i
    split at P
    · rename_i hz
      cases q : L2.atI z.cps.toList i with
      | none => rw [q] at P; exact P.elim
      | some c =>
        rw [q] at P
        exact .inr (.inr ⟨z, i, c, h1.str, h2.int, hz, q, P _ (.str _)⟩)
    · exact P.elim
  · exact P.elim
def cutD (xs : List D) (lo hi : Option Int) : List D := (xs.drop (HT.sIx xs.length 0 lo)).take (HT.sIx xs.length xs.length hi - HT.sIx xs.length 0 lo)
theorem DqAll.cut {K : PySem.W.Frag} {H : Hp} {vs : List V} {ds : List D} (h : DqAll K H vs ds) (lo hi : Option Int) : DqAll K H (cutV vs lo hi) (cutD ds lo hi) := by
  unfold cutV cutD
  rw [h.length]
  exact (h.drop _).take _
def gSl (d : D) (lo hi : Option Int) : Option Out := match d with
  | .list ds => some (.newl (cutD ds lo hi))
  | .tuple ds => if HT.sIx ds.length 0 lo = 0 ∧ HT.sIx ds.length ds.length hi = ds.length then some (.val (.tuple ds)) else some (.newt (cutD ds lo hi))
  | .str z => if z.length ≤ sizeLine then some (.val (.str (cutS z lo hi))) else none
  | _ => none
def rSlX (K : PySem.W.Frag) : V → Option Int → Option Int → Hp → VK → Prop := rOrS (rSlL K) (rOrS (rSlA K) rSlS)
theorem sl_X {X : Cx} {C : Ct} (hK : X.K = C.K) : SlR X (rSlX C.K) := by rw [← hK]; exact slr_or sl_list (slr_or sl_tupA sl_str)
theorem sls_X {C : Ct} : SlS C (rSlX C.K) gSl := by
  intro Hf H x d lo hi Q sm h P
  unfold gSl at P
  split at P
  · obtain ⟨p, vs, rfl, a1, a2⟩ := h.lst
    exact .inl ⟨p, vs, rfl, SqL.of a1, fun r hr => P r _ hr (a2.cut lo hi)⟩
  · rename_i ds
    obtain ⟨p, vs, rfl, a1, a2, a3⟩ := h.tup sm
    refine .inr (.inl ⟨p, vs, rfl, a1, fun e => ?_, fun e r hr => ?_⟩)
    · rw [a2.length] at e
      rw [if_pos e] at P
      exact P _ a3
    · rw [a2.length] at e
      rw [if_neg e] at P
      exact P r _ hr (a2.cut lo hi)
  · split at P
    · rename_i hz
      exact .inr (.inr ⟨_, h.str, hz, P _ (.str _)⟩)
    · exact P.elim
  · exact P.elim
/-- e[::-1] of a list -/
def mRev (m : M RV) : M RV := fun ε => (m ε).bind fun r ε1 => match view ε1 r with
  | some (.list ds) => outR (some (.newl ds.reverse)) ε1
  | _ => .bad
end M3

namespace M3
open PySem PySem.Spec L2
open PyProof.Rows hiding St

/-! ### built-in functions and types, called -/
section
variable {C : Ct}
/-- len -/
def gLen : List D → Option Out
  | [.list ds] => some (.val (.int ds.length))
  | [.tuple ds] => some (.val (.int ds.length))
  | [.str z] => if z.length ≤ sizeLine then some (.val (.int z.length)) else none
  | _ => none
def rLenX (K : PySem.W.Frag) : List V → Hp → VK → Prop := rOrC (fun xs H Q => ∃ p ys, xs = [.ref p] ∧ (SqL K H p ys ∨ SqT K H p ys) ∧ Q (.int ys.length) H) (fun xs H Q => ∃ z, xs = [.str z] ∧ z.length ≤ sizeLine ∧ Q (.int z.length) H)
theorem cr_len {X : Cx} (hK : X.K = C.K) : CallR X (.builtin "len") (rLenX C.K) := by rw [← hK]; exact callr_or call_len_seq call_len_str
theorem cs_len : CallS C (rLenX C.K) gLen := by
  intro Hf H xs ds Q sm h P
  unfold gLen at P
  split at P
  · obtain ⟨v, rfl, q⟩ := h.one
    obtain ⟨p, vs, rfl, a1, a2⟩ := q.lst
    exact .inl ⟨p, vs, rfl, .inl (SqL.of a1), by rw [a2.length]; exact P _ (.int _)⟩
  · obtain ⟨v, rfl, q⟩ := h.one
    obtain ⟨p, vs, rfl, a1, a2, _⟩ := q.tup sm
    exact .inl ⟨p, vs, rfl, .inr a1, by rw [a2.length]; exact P _ (.int _)⟩
  · split at P
    · rename_i hz
      obtain ⟨v, rfl, q⟩ := h.one
      exact .inr ⟨_, by rw [q.str], hz, P _ (.int _)⟩
    · exact P.elim
  · exact P.elim
/-- list(x), tuple(x) -/
def gList : List D → Option Out
  | [.list ds] => some (.newl ds)
  | [.tuple ds] => some (.newl ds)
  | _ => none
def gTuple : List D → Option Out
  | [.list ds] => some (.newt ds)
  | [.tuple ds] => some (.val (.tuple ds))
  | _ => none
def rListX (K : PySem.W.Frag) : List V → Hp → VK → Prop := fun xs H Q => ∃ p ys, xs = [.ref p] ∧ (SqL K H p ys ∨ SqT K H p ys) ∧ ∀ l, H l = none → Q (.ref l) (upd H l (.lst ys))
def rTupleX (K : PySem.W.Frag) : List V → Hp → VK → Prop := fun xs H Q => ∃ p ys, xs = [.ref p] ∧ ((SqL K H p ys ∧ ∀ l, H l = none → Q (.ref l) (upd H l (.tup ys))) ∨ (SqT K H p ys ∧ Q (.ref p) H))
theorem cr_list {X : Cx} (hK : X.K = C.K) : CallR X (.type "list") (rListX C.K) := by rw [← hK]; exact call_list_of
theorem cr_tuple {X : Cx} (hK : X.K = C.K) : CallR X (.type "tuple") (rTupleX C.K) := by rw [← hK]; exact call_tuple_of
theorem cs_list : CallS C (rListX C.K) gList := by
  intro Hf H xs ds Q sm h P
  unfold gList at P
  split at P
  · obtain ⟨v, rfl, q⟩ := h.one
    obtain ⟨p, vs, rfl, a1, a2⟩ := q.lst
    exact ⟨p, vs, rfl, .inl (SqL.of a1), fun r hr => P r _ hr a2⟩
  · obtain ⟨v, rfl, q⟩ := h.one
    obtain ⟨p, vs, rfl, a1, a2, _⟩ := q.tup sm
    exact ⟨p, vs, rfl, .inr a1, fun r hr => P r _ hr a2⟩
  · exact P.elim
theorem cs_tuple : CallS C (rTupleX C.K) gTuple := by
  intro Hf H xs ds Q sm h P
  unfold gTuple at P
  split at P
  · obtain ⟨v, rfl, q⟩ := h.one
    obtain ⟨p, vs, rfl, a1, a2⟩ := q.lst
    exact ⟨p, vs, rfl, .inl ⟨SqL.of a1, fun r hr => P r _ hr a2⟩⟩
  · obtain ⟨v, rfl, q⟩ := h.one
    obtain ⟨p, vs, rfl, a1, a2, a3⟩ := q.tup sm
    exact ⟨p, vs, rfl, .inr ⟨a1, P _ a3⟩⟩
  · exact P.elim
def gInt : List D → Option Out
  | [.int i] => some (.val (.int i))
  | [.bool k] => some (.val (.int (if k then 1 else 0)))
  | _ => none
theorem cs_int : CallS C (fun xs H Q => (∃ i, xs = [.int i] ∧ Q (.int i) H) ∨ ∃ k, xs = [.bl k] ∧ Q (.int (if k then 1 else 0)) H) gInt := by
  intro Hf H xs ds Q sm h P
  unfold gInt at P
  split at P
  · obtain ⟨v, rfl, q⟩ := h.one
    exact .inl ⟨_, by rw [q.int], P _ (.int _)⟩
  · obtain ⟨v, rfl, q⟩ := h.one
    exact .inr ⟨_, by rw [q.bl], P _ (.int _)⟩
  · exact P.elim
def gMin : List D → Option Out
  | [.int i, .int j] => some (.val (.int (if j < i then j else i)))
  | _ => none
def gMax : List D → Option Out
  | [.int i, .int j] => some (.val (.int (if j > i then j else i)))
  | _ => none
theorem cs_min : CallS C (fun xs H Q => ∃ i j, xs = [.int i, .int j] ∧ Q (.int (if j < i then j else i)) H) gMin := by
  intro Hf H xs ds Q sm h P
  unfold gMin at P
  split at P
  · obtain ⟨v, u, rfl, q1, q2⟩ := h.two
    exact ⟨_, _, by rw [q1.int, q2.int], P _ (.int _)⟩
  · exact P.elim
theorem cs_max : CallS C (fun xs H Q => ∃ i j, xs = [.int i, .int j] ∧ Q (.int (if j > i then j else i)) H) gMax := by
  intro Hf H xs ds Q sm h P
  unfold gMax at P
  split at P
  · obtain ⟨v, u, rfl, q1, q2⟩ := h.two
    exact ⟨_, _, by rw [q1.int, q2.int], P _ (.int _)⟩
  · exact P.elim
/-- all, any, sum -/
def blsD : List D → Option (List Bool)
  | [] => some []
  | .bool b :: ds => (blsD ds).map (b :: ·)
  | _ => none
theorem blsD_vs {K : PySem.W.Frag} {H : Hp} : ∀ {vs : List V} {ds : List D} {bs : List Bool}, DqAll K H vs ds → blsD ds = some bs → vs = bs.map V.bl
  | _, _, _, .nil, e => by cases e; rfl
  | _, _, _, .cons (d := d) (ds := ds) a b, e => by
    cases d with
    | bool k =>
      unfold blsD at e
      cases q : blsD ds with
      | none => rw [q] at e; cases e
      | some bs =>
        rw [q] at e
        cases e
        cases a
        rw [blsD_vs b q]
        rfl
    | _ => cases e
def gAll : List D → Option Out
  | [.list ds] => (blsD ds).map fun bs => .val (.bool (bs.all id))
  | _ => none
theorem cr_allK {X : Cx} (hK : X.K = C.K) (hc : X.calm = true) : CallR X (.builtin "all") (rAll C.K) := by rw [← hK]; exact cr_all hc
theorem cs_all : CallS C (rAll C.K) gAll := by
  intro Hf H xs ds Q sm h P
  unfold gAll at P
  split at P
  · rename_i ds
    cases q : blsD ds with
    | none => rw [q] at P; exact P.elim
    | some bs =>
      rw [q] at P
      obtain ⟨v, rfl, q1⟩ := h.one
      obtain ⟨p, vs, rfl, a1, a2⟩ := q1.lst
      rw [blsD_vs a2 q] at a1
      exact ⟨p, bs, rfl, SqL.of a1, P _ (.bl _)⟩
  · exact P.elim
def intsD : List D → Option (List Int)
  | [] => some []
  | .int b :: ds => (intsD ds).map (b :: ·)
  | _ => none
/-- repr(x) -/
def rRepr (K : PySem.W.Frag) : List V → Hp → VK → Prop := fun xs H Q => ∃ x d, xs = [x] ∧ Dp K H x d ∧ PyData.showable d = true ∧ PyData.hasDict d = false ∧ d.depth ≤ 64 ∧ d.shown.length ≤ sizeLine ∧ Q (.str d.shown) H
theorem call_reprD {X : Cx} {k : Nat} (hr : Room k X.A) (hg : X.A.guards = some []) : CallR X (.builtin "repr") (rRepr X.K) := by
  intro pins s σ H xs us Q I r h
  obtain ⟨x, d, rfl, hd, h1, h2, h3, h4, q⟩ := h
  cases r with
  | cons rx rn =>
    cases rn
    rename_i u
    obtain ⟨as, r1⟩ := Dp.reads I d x u hd rx
    have fin : ∀ (tk : Nat) (t : Tok), EP X pins σ Q (.str d.shown t) { s with toks := tk } := fun tk t => ⟨.str _, H, I.tok tk, ⟨_, rfl⟩, q⟩
    have big : ∀ (a : Addr), u = .ref a → wpAny (model X.prog X.w) X.A (call (.builtin "repr") [u]) (EP X pins σ Q) X.xe s := fun a e => by
      subst e
      refine repr_of_reads' r1 h1 (PyData.noDict_hsm h2) hg ?_ (fun _ _ e => e) (fun h' t tk hk => ?_) h4
      · have := hr.un; omega
      · exact ⟨.str _, H, I.kept (t' := tk) hk, ⟨_, rfl⟩, q⟩
    cases d with
    | none => cases hd; cases rx; exact P.repr_of_none (fin _ _)
    | bool b =>
      cases hd
      cases rx
      refine P.repr_of_bool ?_
      have := fin (s.toks + 1) s.toks
      unfold PyData.shown at this
      exact this
    | int i =>
      cases hd
      obtain ⟨t, rfl⟩ := rx
      unfold PyData.showable at h1
      refine P.repr_of_int (of_decide_eq_true h1) ?_
      have := fin (s.toks + 1) s.toks
      unfold PyData.shown at this
      exact this
    | str z =>
      cases hd
      obtain ⟨t, rfl⟩ := rx
      refine P.repr_of_str ?_ ?_
      · have := fin (s.toks + 1) s.toks
        unfold PyData.shown at this
        exact this
      · unfold PyData.shown at h4
        exact h4
    | list ds =>
      cases hd with
      | lst hs ha => cases rx; exact big _ rfl
    | tuple ds =>
      cases hd with
      | tup hs ha => cases rx; exact big _ rfl
    | dict kvs => cases hd
def gRepr : List D → Option Out
  | [d] => if PyData.showable d = true ∧ PyData.hasDict d = false ∧ d.depth ≤ 64 ∧ d.shown.length ≤ sizeLine then some (.val (.str d.shown)) else none
  | _ => none
theorem cr_repr {X : Cx} {k : Nat} (hK : X.K = C.K) (hr : Room k X.A) (hg : X.A.guards = some []) : CallR X (.builtin "repr") (rRepr C.K) := by rw [← hK]; exact call_reprD hr hg
theorem cs_repr : CallS C (rRepr C.K) gRepr := by
  intro Hf H xs ds Q sm h P
  unfold gRepr at P
  split at P
  · rename_i d
    split at P
    · rename_i hz
      obtain ⟨v, rfl, q⟩ := h.one
      exact ⟨v, d, rfl, (q.dq sm).dp, hz.1, hz.2.1, hz.2.2.1, hz.2.2.2, P _ (.str _)⟩
    · exact P.elim
  · exact P.elim

/-! ### methods of texts -/
def strsD : List D → Option (List Str)
  | [] => some []
  | .str b :: ds => (strsD ds).map (b :: ·)
  | _ => none
theorem strsD_vs {K : PySem.W.Frag} {H : Hp} : ∀ {vs : List V} {ds : List D} {bs : List Str}, DqAll K H vs ds → strsD ds = some bs → vs = bs.map V.str
  | _, _, _, .nil, e => by cases e; rfl
  | _, _, _, .cons (d := d) (ds := ds) a b, e => by
    cases d with
    | str k =>
      unfold strsD at e
      cases q : strsD ds with
      | none => rw [q] at e; cases e
      | some bs =>
        rw [q] at e
        cases e
        cases a
        rw [strsD_vs b q]
        rfl
    | _ => cases e
def gJoin : D → List D → Option Out
  | .str a, [.list ds] => (strsD ds).bind fun ys => if (ys.map (·.length)).sum + ys.length * a.length ≤ 16777216 then some (.val (.str (Txt.join a ys))) else none
  | .str a, [.tuple ds] => (strsD ds).bind fun ys => if (ys.map (·.length)).sum + ys.length * a.length ≤ 16777216 then some (.val (.str (Txt.join a ys))) else none
  | _, _ => none
def rJoinX (K : PySem.W.Frag) : V → List V → Hp → VK → Prop := fun x xs H Q => ∃ a p, ∃ ys : List Str, x = .str a ∧ xs = [.ref p] ∧ (SqL K H p (ys.map V.str) ∨ SqT K H p (ys.map V.str)) ∧ (ys.map (·.length)).sum + ys.length * a.length ≤ 16777216 ∧ Q (.str (Txt.join a ys)) H
theorem mr_join {X : Cx} (hK : X.K = C.K) : MtR X "str.join" (rJoinX C.K) := by rw [← hK]; exact mt_join
theorem mts_join : MtS C (rJoinX C.K) gJoin := by
  intro Hf H x xs d ds Q sm hd h P
  unfold gJoin at P
  split at P
  · rename_i a ds
    cases q : strsD ds with
    | none => rw [q] at P; exact P.elim
    | some ys =>
      rw [q] at P
      dsimp only [Option.bind] at P
      split at P
      · rename_i hz
        obtain ⟨v, rfl, q1⟩ := h.one
        obtain ⟨p, vs, rfl, a1, a2⟩ := q1.lst
        rw [strsD_vs a2 q] at a1
        exact ⟨a, p, ys, hd.str, rfl, .inl (SqL.of a1), hz, P _ (.str _)⟩
      · exact P.elim
  · rename_i a ds
    cases q : strsD ds with
    | none => rw [q] at P; exact P.elim
    | some ys =>
      rw [q] at P
      dsimp only [Option.bind] at P
      split at P
      · rename_i hz
        obtain ⟨v, rfl, q1⟩ := h.one
        obtain ⟨p, vs, rfl, a1, a2, _⟩ := q1.tup sm
        rw [strsD_vs a2 q] at a1
        exact ⟨a, p, ys, hd.str, rfl, .inr a1, hz, P _ (.str _)⟩
      · exact P.elim
  · exact P.elim
end

/-! ### isinstance -/
def tyD : D → String
  | .none => "NoneType"
  | .bool _ => "bool"
  | .int _ => "int"
  | .str _ => "str"
  | .list _ => "list"
  | .tuple _ => "tuple"
  | .dict _ => "dict"
theorem Dq.ty {K : PySem.W.Frag} {H : Hp} {v : V} {d : D} (h : Dq K H v d) : TyX K H v (.type (tyD d)) := by
  cases h with
  | non => exact .base .non
  | bl b => exact .base (.bl b)
  | int i => exact .base (.int i)
  | str x => exact .base (.str x)
  | lst h a => exact .base (.lst h)
  | tup h a =>
    rcases h with (h | ⟨o, h⟩) | ⟨o, its, n, h1, h2, _⟩
    · exact .base (.tup h)
    · exact .fTuple h
    · exact .kTuple h1 h2
def isiD (d : D) (T : String) : Option Bool := kitB (tyD d) T
def isiAny (d : D) : List String → Option Bool
  | [] => some false
  | T :: Ts => match isiD d T with
    | some true => some true
    | some false => isiAny d Ts
    | none => none
theorem kit_any {K : PySem.W.Frag} {d : D} : ∀ {Ts : List String} {b : Bool}, isiAny d Ts = some b → PySem.W.kitAny K (.type (tyD d)) (Ts.map Value.type) = some b
  | [], _, e => e
  | T :: Ts, b, e => by
    unfold isiAny at e
    show (match PySem.W.kitOne K (.type (tyD d)) (.type T) with
    | some true => some true
    | some false => PySem.W.kitAny K (.type (tyD d)) (Ts.map Value.type)
    | none => none) = some b
    cases q : isiD d T with
    | none => rw [q] at e; cases e
    | some k =>
      rw [q] at e
      rw [kit_ty q]
      cases k with
      | true => exact e
      | false => exact kit_any e
/-- isinstance(e, T) -/
def mIsi (T : String) (m : M RV) : M RV := fun ε => (m ε).bind fun r ε1 => match view ε1 r with
  | some d => (match isiD d T with
    | some b => .ok (.fro (.bool b)) ε1
    | none => .bad)
  | none => .bad
theorem me_isi {X : Cx} {C : Ct} {e : Expr} {te : TE} {m : M RV} {x : Str} {p px pos : Pos} (T : String) (h : MO X C e te m) (hm : X.mg "isinstance" = none) (hmx : X.mg x = none) (hv : bootBuiltins x = some (.type T) := by decide +kernel) (hg : Gl X "isinstance" := by rfl) (hgx : Gl X x := by rfl)
    (hn : x ≠ "__name__" := by decide) (hd : (x == ("__debug__" : Str)) = false := by decide) (he : starEach [e, .Name x px] X.env = (false, eval e X.env) :: starEach [.Name x px] X.env := by rfl) (he2 : starEach [Expr.Name x px] X.env = (false, eval (.Name x px) X.env) :: starEach [] X.env := by rfl)
    (hpl : (backTo pos (starEach [.Name x px] X.env)).any (·.1) = false := by rfl) :
    ME X C (.Call (.Name "isinstance" p) [e, .Name x px] [] pos) (tCB (rIsi C.K) (tCons te (tCons (tC (.ty T)) tNil))) (mIsi T m) := by
  refine ⟨by
    have q := pe_callB (p := p) (pos := pos) call_isi hg hm boot_isinstance (pa_cons h.pe (pa_cons (pe_bltn (pos := px) (v := .ty T) hgx hmx hv rfl hn hd) pa_nil he2) he) (by decide) (by decide) he hpl
    rw [h.hK] at q
    exact q, ?_, h.hK⟩
  refine Snd.bind (Rel1 := relO) (t1 := te) (t2 := fun v (σ : L2.St) H1 (Q : VK) => rIsi C.K [v, .ty T] H1 Q) h.sn fun Hf H w σ ε S b a Q E rb P => ?_
  split at P
  · rename_i d e
    split at P
    · rename_i k ek
      exact ⟨b, .ty T, .type (tyD d), .type T, k, rfl, .ty T, ((rb.2.view E e).dq E.sub).ty, kit_ty ek, P.here E ⟨fun _ z => z, .bl k⟩⟩
    · exact P.elim
  · exact P.elim
/-- isinstance(e, (T, U)) -/
def mIsi2 (T U : String) (m : M RV) : M RV := fun ε => (m ε).bind fun r ε1 => match view ε1 r with
  | some d => (match isiAny d [T, U] with
    | some b => .ok (.fro (.bool b)) ε1
    | none => .bad)
  | none => .bad
theorem me_isi2 {X : Cx} {C : Ct} {e : Expr} {te : TE} {m : M RV} {x y : Str} {p px py pt pos : Pos} {kk : Nat} (T U : String) (h : MO X C e te m) (hm : X.mg "isinstance" = none) (hmx : X.mg x = none) (hmy : X.mg y = none) (hv : bootBuiltins x = some (.type T) := by decide +kernel) (hvy : bootBuiltins y = some (.type U) := by decide +kernel)
    (hg : Gl X "isinstance" := by rfl) (hgx : Gl X x := by rfl) (hgy : Gl X y := by rfl) (hn : x ≠ "__name__" := by decide) (hd : (x == ("__debug__" : Str)) = false := by decide) (hny : y ≠ "__name__" := by decide) (hdy : (y == ("__debug__" : Str)) = false := by decide)
    (he : starEach [e, .Tuple [.Name x px, .Name y py] kk pt] X.env = (false, eval e X.env) :: starEach [.Tuple [.Name x px, .Name y py] kk pt] X.env := by rfl)
    (he2 : starEach [Expr.Tuple [.Name x px, .Name y py] kk pt] X.env = (false, eval (.Tuple [.Name x px, .Name y py] kk pt) X.env) :: starEach [] X.env := by rfl)
    (he3 : starEach [Expr.Name x px, .Name y py] X.env = (false, eval (.Name x px) X.env) :: starEach [.Name y py] X.env := by rfl) (he4 : starEach [Expr.Name y py] X.env = (false, eval (.Name y py) X.env) :: starEach [] X.env := by rfl)
    (hpl : (backTo pos (starEach [.Tuple [.Name x px, .Name y py] kk pt] X.env)).any (·.1) = false := by rfl) :
    ME X C (.Call (.Name "isinstance" p) [e, .Tuple [.Name x px, .Name y py] kk pt] [] pos) (tCB (rIsiT C.K) (tCons te (tCons (tTup (tCons (tC (.ty T)) (tCons (tC (.ty U)) tNil))) tNil))) (mIsi2 T U m) := by
  refine ⟨by
    have q := pe_callB (p := p) (pos := pos) call_isiT hg hm boot_isinstance (pa_cons h.pe (pa_cons (pe_tup (x1 := kk) (pos := pt) (pa_cons (pe_bltn (pos := px) (v := .ty T) hgx hmx hv rfl hn hd) (pa_cons (pe_bltn (pos := py) (v := .ty U) hgy hmy hvy rfl hny hdy) pa_nil he4) he3)) pa_nil he2) he) (by decide) (by decide) he hpl
    rw [h.hK] at q
    exact q, ?_, h.hK⟩
  refine Snd.bind (Rel1 := relO) (t1 := te) (t2 := fun v (σ : L2.St) H1 (Q : VK) => 2 ≤ sizeLine ∧ ∀ p, H1 p = none → rIsiT C.K [v, .ref p] (upd H1 p (.tup [.ty T, .ty U])) Q) h.sn fun Hf H w σ ε S b a Q E rb P => ?_
  split at P
  · rename_i d e
    split at P
    · rename_i k ek
      refine ⟨by rw [sizeLine_eq]; omega, fun p hp => ?_⟩
      have E2 := E.layNew (o := .tup [.ty T, .ty U]) hp
      refine ⟨b, p, [.ty T, .ty U], .type (tyD d), [.type T, .type U], k, rfl, upd_same, .cons (.ty T) (.cons (.ty U) .nil), (((rb.2.view E e).dq E.sub).mono (same_upd hp)).ty, kit_any (Ts := [T, U]) ek, ?_⟩
      exact P Hf _ w (fun _ => False) (.bl k) E2 ((Stp.layNew hp).out fun x z => z.elim .inl False.elim) ⟨fun _ z => z, .bl k⟩
    · exact P.elim
  · exact P.elim

/-! ### len(set(xs)) -/
def keysD : List D → Option (List Key)
  | [] => some []
  | .int i :: ds => (keysD ds).map (.inl i :: ·)
  | .str x :: ds => (keysD ds).map (.inr x :: ·)
  | _ => none
theorem keysD_vs {K : PySem.W.Frag} {H : Hp} : ∀ {vs : List V} {ds : List D} {ks : List Key}, DqAll K H vs ds → keysD ds = some ks → vs = ks.map kV
  | _, _, _, .nil, e => by cases e; rfl
  | _, _, _, .cons (d := d) (ds := ds) a b, e => by
    cases d with
    | int k =>
      unfold keysD at e
      cases q : keysD ds with
      | none => rw [q] at e; cases e
      | some bs =>
        rw [q] at e
        cases e
        cases a
        rw [keysD_vs b q]
        rfl
    | str k =>
      unfold keysD at e
      cases q : keysD ds with
      | none => rw [q] at e; cases e
      | some bs =>
        rw [q] at e
        cases e
        cases a
        rw [keysD_vs b q]
        rfl
    | _ => cases e
def mLenSet (m : M RV) : M RV := fun ε => (m ε).bind fun r ε1 => match view ε1 r with
  | some (.list ds) => (match keysD ds with
    | some ks => if ks.length ≤ 4000 then .ok (.fro (.int (ddK ks).length)) ε1 else .bad
    | none => .bad)
  | _ => .bad
end M3

namespace M3
open PySem PySem.Spec L2
open PyProof.Rows hiding St

/-! ### a value kept over a step -/
theorem relRV.keep {C : Ct} {Hf H Hf' H' : Hp} {w w' : Own} {σ σ' : L2.St} {S o o' : Addr → Prop} {v : V} {r : RV} (h : relRV C Hf H w σ S v r) (st : Stp Hf H o Hf' H' o') (hS : ∀ a, S a → ¬ o a) (hw : ∀ a, O w' a → o' a)
    (hσ : ∀ i, r = .at_ i → σ'[i]? = σ[i]?) : relRV C Hf' H' w' σ' S v r ∧ (∀ a, S a → ¬ o' a) := by
  cases r with
  | fro d => exact ⟨⟨h.1, h.2.mono st.mono⟩, fun a z => absurd z (h.1 a)⟩
  | at_ i => exact ⟨⟨h.1, by rw [hσ i rfl]; exact h.2⟩, fun a z => absurd z (h.1 a)⟩
  | raw u => exact ⟨h, fun a z => absurd z (h.1 a)⟩
  | new ov =>
    obtain ⟨p, rfl, h1, h2, h3⟩ := h
    have kp : ∀ a, S a → H' a = H a ∧ Hf' a = Hf a ∧ ¬ o' a := fun a z => st.rest a (h1.there a z) (hS a z)
    exact ⟨⟨p, rfl, h1.keep st.mono fun a z => (kp a z).1, fun a z => by rw [(kp a z).2.1]; exact h2 a z, fun i a z1 z2 => (kp a z2).2.2 (hw a ⟨i, z1⟩)⟩, fun a z => (kp a z).2.2⟩
theorem relRV.out {C : Ct} {Hf H : Hp} {w : Own} {σ : L2.St} {S : Addr → Prop} {v : V} {r : RV} (h : relRV C Hf H w σ S v r) : ∀ a, S a → ¬ O w a := by
  cases r with
  | fro d => exact fun a z => absurd z (h.1 a)
  | at_ i => exact fun a z => absurd z (h.1 a)
  | raw u => exact fun a z => absurd z (h.1 a)
  | new ov => obtain ⟨p, rfl, h1, h2, h3⟩ := h; exact fun a z ⟨i, y⟩ => h3 i a y z

/-- values in a row, new ones among them -/
inductive RVs (C : Ct) (Hf H : Hp) (w : Own) (σ : L2.St) : (Addr → Prop) → List V → List RV → Prop
  | nil {S : Addr → Prop} : (∀ a, ¬ S a) → RVs C Hf H w σ S [] []
  | cons {S S1 S2 : Addr → Prop} {v : V} {vs : List V} {r : RV} {rs : List RV} : relRV C Hf H w σ S1 v r → RVs C Hf H w σ S2 vs rs → (∀ a, S1 a → ¬ S2 a) → (∀ a, S a ↔ (S1 a ∨ S2 a)) → RVs C Hf H w σ S (v :: vs) (r :: rs)
theorem RVs.out {C : Ct} {Hf H : Hp} {w : Own} {σ : L2.St} : ∀ {S : Addr → Prop} {vs : List V} {rs : List RV}, RVs C Hf H w σ S vs rs → ∀ a, S a → ¬ O w a
  | _, _, _, .nil h => fun a z => absurd z (h a)
  | _, _, _, .cons h1 h2 _ e => fun a z => ((e a).mp z).elim (h1.out a) (RVs.out h2 a)
/-- no slot of these is named -/
def noAt (i : Nat) : List RV → Bool
  | [] => true
  | .at_ j :: rs => !(j == i) && noAt i rs
  | .fro _ :: rs => noAt i rs
  | .raw _ :: rs => noAt i rs
  | .new _ :: rs => noAt i rs
theorem RVs.keep {C : Ct} {Hf H Hf' H' : Hp} {w w' : Own} {σ σ' : L2.St} {o o' : Addr → Prop} (st : Stp Hf H o Hf' H' o') (hw : ∀ a, O w' a → o' a) : ∀ {S : Addr → Prop} {vs : List V} {rs : List RV}, RVs C Hf H w σ S vs rs → (∀ a, S a → ¬ o a) → (∀ i, (RV.at_ i) ∈ rs → σ'[i]? = σ[i]?) →
    RVs C Hf' H' w' σ' S vs rs ∧ (∀ a, S a → ¬ o' a)
  | _, _, _, .nil h, _, _ => ⟨.nil h, fun a z => absurd z (h a)⟩
  | _, _, _, .cons h1 h2 d e, hS, hσ => by
    obtain ⟨q1, q2⟩ := h1.keep st (fun a z => hS a ((e a).mpr (.inl z))) hw (fun i z => hσ i (by rw [z]; exact List.mem_cons_self))
    obtain ⟨q3, q4⟩ := RVs.keep st hw h2 (fun a z => hS a ((e a).mpr (.inr z))) (fun i z => hσ i (List.mem_cons_of_mem _ z))
    exact ⟨.cons q1 q3 d e, fun a z => ((e a).mp z).elim (q2 a) (q4 a)⟩
def relRVs : Rl (List RV) (List V) := fun C Hf H w σ S vs rs => RVs C Hf H w σ S vs rs
theorem snd_rnil {C : Ct} : Snd C relRVs tNil msNil := fun _ _ _ _ _ _ E P => P.here E (.nil fun _ z => z)
theorem snd_rcons {C : Ct} {ta : TE} {m : M RV} {tr : TA} {ms : M (List RV)} (h1 : Snd C relRV ta m) (h2 : Snd C relRVs tr ms) : Snd C relRVs (tCons ta tr) (msCons m ms) := by
  intro Hf H w σ ε Q E P
  refine h1 Hf H w σ ε _ E ?_
  unfold msCons at P
  cases e : m ε with
  | err x ε1 => rw [e] at P; exact P
  | bad => rw [e] at P; exact P
  | ok r ε1 =>
    rw [e] at P
    intro Hf1 H1 w1 S b E1 st rb
    refine h2 Hf1 H1 w1 σ ε1 _ E1 ?_
    simp only [R.bind] at P
    cases e2 : ms ε1 with
    | err x ε2 => rw [e2] at P; exact P.step st.noS
    | bad => rw [e2] at P; exact P
    | ok rs ε2 =>
      rw [e2] at P
      replace P : PostX C relRVs Hf H w σ Q (.ok (r :: rs) ε2) := P
      intro Hf2 H2 w2 S2 bs E2 st2 rbs
      obtain ⟨q1, q2⟩ := rb.keep st2 rb.out (fun a z => .inl z) (fun _ _ => rfl)
      refine P Hf2 H2 w2 (fun a => S a ∨ S2 a) (b :: bs) E2 ?_ (.cons q1 rbs (fun a z1 z2 => q2 a z1 (.inr z2)) fun a => Iff.rfl)
      refine ⟨st.mono.trans st2.mono, fun a ha na => ?_⟩
      obtain ⟨r1, r2, r3⟩ := st.rest a ha na
      obtain ⟨t1, t2, t3⟩ := st2.rest a (by rw [r1]; exact ha) (fun z => r3 (.inl z))
      exact ⟨t1.trans r1, t2.trans r2, fun z => z.elim (fun z => t3 (.inl z)) fun z => z.elim (fun z => r3 (.inr z)) fun z => t3 (.inr z)⟩
/-- stores in a row -/
def mStores : List Nat → List RV → En → Option En
  | [], [], ε => some ε
  | i :: is, r :: rs, ε => if noAt i rs = true then (match mStore i r ε with
    | some ε1 => mStores is rs ε1
    | none => none) else none
  | _, _, _ => none
def setAll : List Nat → List V → L2.St → L2.St
  | i :: is, v :: vs, σ => setAll is vs (σ.set i (some v))
  | _, _, σ => σ
theorem noAt_mem {i : Nat} : ∀ {rs : List RV}, noAt i rs = true → ∀ {j : Nat}, (RV.at_ j) ∈ rs → j ≠ i
  | [], _, _, h => by cases h
  | r :: rs, hn, j, h => by
    rcases List.mem_cons.mp h with e | h
    · subst e
      unfold noAt at hn
      have := (Bool.and_eq_true_iff.mp hn).1
      simpa using this
    · refine noAt_mem (rs := rs) ?_ h
      cases r <;> unfold noAt at hn <;> first | exact hn | exact (Bool.and_eq_true_iff.mp hn).2
theorem stores_ok {C : Ct} : ∀ {is : List Nat} {rs : List RV} {Hf H : Hp} {w : Own} {σ : L2.St} {ε ε' : En} {S : Addr → Prop} {vs : List V}, EnR C Hf H w σ ε → RVs C Hf H w σ S vs rs → mStores is rs ε = some ε' → (∀ i ∈ is, C.own.contains i = false) →
    ∃ Hf' w', EnR C Hf' H w' (setAll is vs σ) ε' ∧ ∀ {Hf0 H0 : Hp} {o0 : Addr → Prop}, Stp Hf0 H0 o0 Hf H (fun x => O w x ∨ S x) → Stp Hf0 H0 o0 Hf' H (O w')
  | [], [], Hf, H, w, σ, ε, ε', S, vs, E, h, e, _ => by
    cases h with
    | nil hS => cases e; exact ⟨Hf, w, E, fun st => st.out fun x z => .inl z⟩
  | i :: is, r :: rs, Hf, H, w, σ, ε, ε', S, vs, E, h, e, hf => by
    cases h with
    | cons h1 h2 d eS =>
      rename_i S1 S2 v vs
      unfold mStores at e
      split at e
      · rename_i hn
        split at e
        · rename_i ε1 e1
          obtain ⟨Hf1, w1, E1, st1⟩ := store_ok E h1 e1 (hf i List.mem_cons_self)
          have stp := st1 (Hf0 := Hf) (H0 := H) (o0 := fun x => O w x ∨ S1 x) Stp.refl
          obtain ⟨q1, q2⟩ := RVs.keep (σ' := σ.set i (some v)) stp (fun a z => z) h2 (fun a z y => y.elim (h2.out a z) fun y => d a y z)
            (fun j hj => List.getElem?_set_ne (fun z => (noAt_mem hn hj) z.symm))
          obtain ⟨Hf2, w2, E2, st2⟩ := stores_ok E1 q1 e (fun j hj => hf j (List.mem_cons_of_mem _ hj))
          refine ⟨Hf2, w2, E2, fun {Hf0 H0 o0} st => st2 ?_⟩
          have sA := st1 (st.out fun x z => z.elim .inl fun z => .inr ((eS x).mpr (.inl z)))
          refine ⟨sA.mono, fun a ha na => ?_⟩
          obtain ⟨r1, r2, r3⟩ := sA.rest a ha na
          exact ⟨r1, r2, fun z => z.elim r3 fun z => (st.rest a ha na).2.2 (.inr ((eS a).mpr (.inr z)))⟩
        · cases e
      · cases e
  | [], _ :: _, _, _, _, _, _, _, _, _, _, _, e, _ => by cases e
  | _ :: _, [], _, _, _, _, _, _, _, _, _, _, e, _ => by cases e
def sPar (is : List Nat) (ms : M (List RV)) : Sm := fun ε => (ms ε).toS fun rs ε1 => match mStores is rs ε1 with
  | some ε2 => .nx ε2
  | none => .bad
theorem RVs.two {C : Ct} {Hf H : Hp} {w : Own} {σ : L2.St} {S : Addr → Prop} {vs : List V} {a b : RV} (h : RVs C Hf H w σ S vs [a, b]) : ∃ x y, vs = [x, y] := by
  cases h with
  | cons _ h _ _ => cases h with
    | cons _ h _ _ => cases h; exact ⟨_, _, rfl⟩
theorem mStores_len : ∀ {is : List Nat} {rs : List RV} {ε ε' : En}, mStores is rs ε = some ε' → rs.length = is.length := by
  intro is
  induction is with
  | nil => intro rs ε ε' e; cases rs with
    | nil => rfl
    | cons _ _ => cases e
  | cons i is ih => intro rs ε ε' e; cases rs with
    | nil => cases e
    | cons r rs =>
      unfold mStores at e
      split at e
      · split at e
        · exact congrArg Nat.succ (ih e)
        · cases e
      · cases e
theorem snds_par2 {C : Ct} {ta : TA} {ms : M (List RV)} {i j : Nat} (h : Snd C relRVs ta ms) (hi : C.own.contains i = false) (hj : C.own.contains j = false) : SndS C (tPar i j ta) (sPar [i, j] ms) := by
  intro Hf H w σ ε D E P
  refine h.toS E P fun rs ε1 Hf1 H1 w1 S vs _ E1 st rb P1 => ?_
  split at P1
  · rename_i ε2 e2
    obtain ⟨Hf2, w2, E2, st2⟩ := stores_ok E1 rb e2 (by intro k hk; rcases List.mem_cons.mp hk with rfl | hk; exact hi; rcases List.mem_cons.mp hk with rfl | hk; exact hj; cases hk)
    have hl2 := mStores_len e2
    match rs, hl2 with
    | [a, b], _ =>
      obtain ⟨x, y, rfl⟩ := RVs.two rb
      exact ⟨x, y, rfl, P1 Hf2 H1 w2 _ E2 (st2 st)⟩
  · exact P1.elim
/-! ### the rules -/
structure MRs (X : Cx) (C : Ct) (es : List Expr) (t : TA) (ms : M (List RV)) : Prop where
  pa : PA X es t
  sn : Snd C relRVs t ms
section
variable {X : Cx} {C : Ct} {e a b c : Expr} {es : List Expr} {te : TE} {m : M RV} {tr : TA} {ms : M (List RV)} {pos : Pos}
theorem mrs_nil : MRs X C [] tNil msNil := ⟨pa_nil, snd_rnil⟩
theorem mrs_cons (h1 : ME X C e te m) (h2 : MRs X C es tr ms) (hs : starEach (e :: es) X.env = (false, eval e X.env) :: starEach es X.env := by rfl) : MRs X C (e :: es) (tCons te tr) (msCons m ms) := ⟨pa_cons h1.pe h2.pa hs, snd_rcons h1.sn h2.sn⟩
theorem ms_par2 {x y : Str} {px py pt : Pos} {kt k2 : Nat} {pt2 : Pos} (i j : Nat) (hN : X.N.Nodup) (h : MRs X C [a, b] tr ms) (hi : X.N[i]? = some x := by rfl) (hj : X.N[j]? = some y := by rfl) (hij : i ≠ j := by decide)
    (hx : X.env.scope.names.lookup x = some .local := by rfl) (hy : X.env.scope.names.lookup y = some .local := by rfl)
    (hw : swappedStores [.Tuple [.Name x px, .Name y py] kt pt] (.Tuple [a, b] k2 pt2) X.env = pure (some [x, y]) := by rfl)
    (hs : swapsWithSole [.Tuple [.Name x px, .Name y py] kt pt] (.Tuple [a, b] k2 pt2) pos.line X.env = pure false := by rfl) (hc : X.calm = true := by rfl) (oi : C.own.contains i = false := by rfl) (oj : C.own.contains j = false := by rfl) :
    MS X C (.Assign [.Tuple [.Name x px, .Name y py] kt pt] (.Tuple [a, b] k2 pt2) pos) (tPar i j tr) (sPar [i, j] ms) := ⟨ps_par hc hN hi hj hij hx hy h.pa hw hs, snds_par2 h.sn oi oj⟩
end

/-! ### a call with ints as defaults behind the written arguments -/
def msApp (is : List Int) (ms : M (List RV)) : M (List RV) := fun ε => (ms ε).bind fun rs ε1 => .ok (rs ++ is.map fun i => .fro (.int i)) ε1
theorem opRs.app {C : Ct} {Hf : Hp} {σ : L2.St} {is : List Int} : ∀ {vs : List V} {rs : List RV}, opRs C Hf σ vs rs → opRs C Hf σ (vs ++ is.map V.int) (rs ++ is.map fun i => .fro (.int i))
  | _, _, .nil => by
    induction is with
    | nil => exact .nil
    | cons i is ih => exact .cons (.int i) ih
  | _, _, .cons a b => .cons a (opRs.app b)
end M3

namespace M3
open PySem PySem.Spec L2
open PyProof.Rows hiding St

/-! ### the laws' state {'cells': [ints], 'turn': int} -/
section
variable {C : Ct} {Hf H : Hp} {w : Own} {σ : L2.St} {ε : En} {i : Nat} {cs : List Int} {t : Int}
end
/-- state['turn'], len(state['cells']), state['cells'][k] -/
def mStTurn (i : Nat) : M RV := fun ε => match ε[i]? with
  | some (some (.own (.st _ t))) => .ok (.fro (.int t)) ε
  | _ => .bad
def mStLen (i : Nat) : M RV := fun ε => match ε[i]? with
  | some (some (.own (.st cs _))) => .ok (.fro (.int cs.length)) ε
  | _ => .bad
def mStCell (i j : Nat) : M RV := fun ε => match ε[i]?, ε[j]? with
  | some (some (.own (.st cs _))), some (some (.fro (.int k))) => (match atI cs k with
    | some c => .ok (.fro (.int c)) ε
    | none => .bad)
  | _, _ => .bad
def sStTurn (i : Nat) (m : M RV) : Sm := fun ε => (m ε).toS fun r ε1 => match ε1[i]?, view ε1 r with
  | some (some (.own (.st cs _))), some (.int t) => .nx (ε1.set i (some (.own (.st cs t))))
  | _, _ => .bad
/-- state['cells'][k], d = divmod(a, b) -/
def sStPut (i d jk : Nat) (ma mb : M RV) : Sm := fun ε => (ma ε).toS fun ra ε1 => (mb ε1).toS fun rb ε2 => match view ε2 ra, view ε2 rb, ε2[i]?, ε2[jk]? with
  | some (.int a), some (.int b), some (some (.own (.st cs t))), some (some (.fro (.int k))) => if 0 < b ∧ b.natAbs.log2 < 9000 ∧ d < ε2.length ∧ d ≠ i then
      (match ixN cs.length k with
        | some j => .nx ((ε2.set i (some (.own (.st (cs.set j (a / b)) t)))).set d (some (.fro (.int (a % b)))))
        | none => .bad)
    else .bad
  | _, _, _, _ => .bad
/-- return {'cells': cells, 'turn': 0} -/
def sRetSt (j : Nat) (t : Int) : Sm := fun ε => match ε[j]? with
  | some (some (.own (.lst ds))) => (match intsD ds with
    | some cs => .rt (.new (.st cs t)) (ε.set j none)
    | none => .bad)
  | _ => .bad

section
variable {X : Cx} {C : Ct} {x : Str} {px ps pos : Pos} {js : Nat} {kk : Nat}
theorem at_ints {cs : List Int} {k c : Int} (h : L2.atI cs k = some c) : L2.atI (cs.map V.int) k = some (.int c) := by
  unfold L2.atI at h ⊢
  rw [List.length_map]
  cases z : ixN cs.length k with
  | none => rw [z] at h; cases h
  | some j =>
    rw [z] at h
    have h' : cs[j]? = some c := h
    show (cs.map V.int)[j]? = _
    rw [List.getElem?_map, h']
    rfl
end
end M3

namespace M3
open PySem PySem.Spec L2
open PyProof.Rows hiding St

/-! ### a law's head, where no guard stands -/
/-- the object of a script -/
abbrev scrObj (vs : List Value) : Obj := { cls := .type "list", data := .seq vs.toArray }
/-- a law begins: nothing is tracked, or the script alone -/
structure Begins (P : Program) (w : World) (K : PySem.W.Frag) (H : Hp) (a : Addr) (h : Heap) (ns : List Int) : Prop where
  only : L2.Only H
  sees : SqL K H a (ns.map V.int)
  good : HOk P w H h
  lone : ∀ b u, H b = some u → b = a ∧ K.lookup a = none
section
variable {P : Program} {w : World} {K : PySem.W.Frag} {H : Hp} {a : Addr} {h : Heap} {vs : List Value} {ns : List Int}
theorem Begins.bare (B : Begins P w K H a h ns) {b : Addr} (n : b ≠ a) : H b = none :=
  Option.eq_none_iff_forall_ne_some.mpr fun u q => n (B.lone b u q).1
theorem Begins.names (B : Begins P w K H a h ns) (ha : h.get? a = some (scrObj vs)) {b : Addr} {m : Str → Option Value} (N : h.Ns b m) : (hidT h H).Ns b m := by
  obtain ⟨o, es, ep, e, d, more⟩ := N
  have n : b ≠ a := by
    rintro rfl
    cases Option.some.inj (ha.symm.trans e)
    exact absurd d (by simp)
  exact ⟨o, es, ep, hidT_get e (B.bare n), d, more⟩
theorem Begins.kept (B : Begins P w K H a h ns) (KX : K.In h) : K.In (hidT h H) := by
  intro b o e
  refine hidT_get (KX b o e) (Option.eq_none_iff_forall_ne_some.mpr fun u q => ?_)
  obtain ⟨rfl, free⟩ := B.lone b u q
  exact absurd (free.symm.trans e) (by simp)
/-- nothing tracked: the script is an object that the module has of its own -/
theorem begins_own (ha : h.get? a = some (scrObj vs)) (hi : IntsAre vs ns) (hl : ns.length ≤ sizeLine) {o : Obj} (lk : K.lookup a = some o) (e : o = scrObj vs) : Begins P w K (fun _ => none) a h ns where
  only := fun _ => .inl rfl
  sees := .inr ⟨o, vs.toArray, _, lk, by rw [e], by rw [e], by rw [e], by rw [List.size_toArray, hi.length]; exact hl, by simpa using vals_ints hi⟩
  good := fun _ _ z => nomatch z
  lone := fun _ _ z => nomatch z
/-- the script tracked -/
def scrHp (a : Addr) (vs : List Value) (ns : List Int) : Hp := fun b => if b = a then some (.frz (scrObj vs) (.lst (ns.map V.int))) else none
theorem begins_new (ha : h.get? a = some (scrObj vs)) (hi : IntsAre vs ns) (hl : ns.length ≤ sizeLine) (lk : K.lookup a = none) : Begins P w K (scrHp a vs ns) a h ns := by
  have one : ∀ b u, scrHp a vs ns b = some u → b = a ∧ u = .frz (scrObj vs) (.lst (ns.map V.int)) := fun b u z => by
    unfold scrHp at z
    split at z
    · rename_i e
      cases z
      exact ⟨e, rfl⟩
    · cases z
  refine ⟨fun b => ?_, .inl (.inr ⟨scrObj vs, by unfold scrHp; rw [if_pos rfl]⟩), fun b u z => ?_, fun b u z => ⟨(one b u z).1, lk⟩⟩
  · unfold scrHp
    split
    · exact .inr ⟨_, _, rfl⟩
    · exact .inl rfl
  · obtain ⟨rfl, rfl⟩ := one b u z
    exact ⟨ha, by rw [List.length_map]; exact hl, vs, _, vals_ints hi, ha⟩
end
/-- how a law must end -/
abbrev Told (s : Shared) : Result → Shared → Prop := fun r s' => r = .ok (.ret (.bool true)) ∧ OldK s.heap s'.heap ∧ s'.os = s.os ∧ AllBare s'.gens
theorem law_callG {P : Program} {w : World} {K : PySem.W.Frag} {mg mb : Str → Option Value} {CX : CXT} {k : Nat} {fa a : Addr} {fd : FuncData} {x : Str} {sp : Sp} {s : Shared} {vs : List Value} {ns : List Int}
    (KX : K.In s.heap) (main : s.heap.Ns mainGlobals mg) (blt : s.heap.Ns builtinsNs mb) (boot : ∀ x : Str, x ≠ "__name__" → mb x = bootBuiltins x) (lim : s.heap.NoLimit) (gens : s.gens = #[])
    (ha : s.heap.get? a = some (scrObj vs)) (hi : IntsAre vs ns) (hl : ns.length ≤ sizeLine) (room : Room k callerA)
    (F : ∀ base : Heap, K.In base → base.Ns mainGlobals mg → FnG P w K mg base CX k fa fd [x] sp) (binds : ∀ (s : Shared) (u : Value), BindsTo s fd ⟨[u], []⟩ [(x, u)])
    (says : ∀ H : Hp, L2.Only H → SqL K H a (ns.map V.int) → sp [.ref a] H (fun v _ => v = .bl true) fun _ _ _ => False) (none_out : ∀ H e s', CX [] H s (fun _ _ _ => False) e s' → False) :
    codeAny (model P w) callerA (.call (.ref fa) ⟨[.ref a], []⟩) (Told s) s := by
  obtain ⟨H, B⟩ : ∃ H, Begins P w K H a s.heap ns := by
    cases lk : K.lookup a with
    | none => exact ⟨_, begins_new ha hi hl lk⟩
    | some o => exact ⟨_, begins_own ha hi hl lk (Option.some.inj ((KX a o lk).symm.trans ha))⟩
  have kin := B.kept KX
  have nsm := B.names ha main
  have md : Mod K mg (hidT s.heap H) := by
    obtain ⟨mc, n1, n2⟩ := lim
    exact ⟨kin, nsm, ⟨mb, B.names ha blt, boot⟩, mc, B.names ha n1, n2⟩
  have env : Env0 P w K mg (hidT s.heap H) callerA [] s H := ⟨rfl, md, fun b o e => of_hidT e, Nat.le_of_eq (hidT_size _ _), trivial, (fun b z => nomatch (show b ∈ ([] : List Addr) from z)), B.good, .of_eq gens⟩
  refine codeAny_mono ((F _ kin nsm).run callerA [] s H ⟨[.ref a], []⟩ [.ref a] [.ref a] _ _ room rfl env (binds s (.ref a)) (.cons rfl .nil) (says H B.only B.sees)) ?_
  rintro (e | fl) s' got
  · exact (none_out H e s' got).elim
  cases fl with
  | ret u =>
    obtain ⟨v, H2, os, gens2, un, good2, rel, rfl⟩ := got
    obtain rfl : u = Value.bool true := rel
    refine ⟨rfl, OldK.of_keep fun b o e => ?_, os, gens2⟩
    rcases B.only b with z | ⟨ob, xs, z⟩
    · exact un.keep b o e z (fun q => nomatch (show b ∈ ([] : List Addr) from q)) (by simp)
    · have e1 := (B.good b _ z).1
      have e2 := (good2 b _ (un.frzs b ob _ z)).1
      rw [e2, ← e1, e]
  | _ => exact False.elim got
theorem walk_ofG {l : PySem.W.OpenLaw} {n k : Nat} {q : Program} {loose : List Str} {XP : (Str → Option Value) → Heap → Prop} {YP : World → Heap → Prop} {d : DefRec} {K : Params → PySem.W.Frag} {CX : World → CXT} {sp : World → Sp} {x : Str}
    (hn : l.most = some n) (hn2 : n ≤ sizeLine) (hdf : d.params.defaults = []) (hr : Room k callerA)
    (hY : ∀ (w : World) (h : Heap), YP w h → (K w.params).In h)
    (F : ∀ (w : World) (mg : Str → Option Value) (fa : Addr) (h : Heap), (K w.params).In h → h.Ns mainGlobals mg → mg d.name = some (.ref fa) →
      ∃ fd : FuncData, (∀ (s : Shared) (u : Value), BindsTo s fd ⟨[u], []⟩ [(x, u)]) ∧
        ∀ base : Heap, (K w.params).In base → base.Ns mainGlobals mg → FnG l.prog w (K w.params) mg base (CX w) k fa fd [x] (sp w))
    (hsp : ∀ (w : World) (H : Hp) (a : Addr) (ns : List Int), ns.length ≤ n → L2.Only H → SqL (K w.params) H a (ns.map V.int) → sp w [.ref a] H (fun v _ => v = .bl true) fun _ _ _ => False)
    (hCX : ∀ (w : World) (H : Hp) (s : Shared) (e : Value) (s' : Shared), CX w [] H s (fun _ _ _ => False) e s' → False) :
    PySem.W.WalkO q loose XP YP l.row.toRowW d [] (fun f vs => PySem.call f vs) := by
  refine Att.attach_call hn hdf fun w s₀ s₁ mg mb fa o pm cd doc a vs ns G Y ho hd hcd hmg hobj hints hlen hg => ?_
  have KX := hY w _ Y
  obtain ⟨fd, hb, hF⟩ := F w mg fa _ KX G.T.g hmg
  exact law_callG KX G.T.g G.T.b G.T.builtins G.T.nolimit hg hobj hints (Nat.le_trans hlen hn2) hr hF hb (fun H hO hS => hsp w H a ns hlen hO hS) fun H e s' => hCX w H s₁ e s'

/-! ### the script -/
section
variable {X : Cx} {C : Ct} {x : Str} {px pos : Pos}
theorem EnR.scr {C : Ct} {Hf H : Hp} {w : Own} {σ : L2.St} {ε : En} (E : EnR C Hf H w σ ε) {i : Nat} {ns : List Int} (e : ε[i]? = some (some (.scr ns))) : ∃ p, σ[i]? = some (some (.ref p)) ∧ SqL C.K Hf p (ns.map V.int) := by
  have q := E.slot i
  rw [e] at q
  exact q.2
def mScrSl (i : Nat) (lo hi : M (Option Int)) : M RV := fun ε => match ε[i]? with
  | some (some (.scr ns)) => (lo ε).bind fun l ε2 => (hi ε2).bind fun h ε3 => outR (some (.newl (cutD (ns.map PyData.int) l h))) ε3
  | _ => .bad
def mScrLen (i : Nat) : M RV := fun ε => match ε[i]? with
  | some (some (.scr ns)) => .ok (.fro (.int ns.length)) ε
  | _ => .bad
theorem me_scrLen {p1 pc : Pos} (i : Nat) (hm : X.mg "len" = none) (hg : Gl X "len" := by rfl) (hN : X.N[i]? = some x := by rfl) (hv : Vis X.env.scope x := by first | exact Or.inl rfl | exact Or.inr (Or.inl rfl) | exact Or.inr (Or.inr rfl)) (hd : (x == ("__debug__" : Str)) = false := by decide)
    (hcd : (x == ("__classdict__" : Str)) = false := by decide) (hK : X.K = C.K := by rfl) (he : starEach [Expr.Name x px] X.env = (false, eval (.Name x px) X.env) :: starEach [] X.env := by rfl) :
    ME X C (.Call (.Name "len" p1) [.Name x px] [] pc) (tCB (fun xs H Q => ∃ p ys, xs = [.ref p] ∧ (SqL C.K H p ys ∨ SqT C.K H p ys) ∧ Q (.int ys.length) H) (tCons (tVar i) tNil)) (mScrLen i) := by
  refine ⟨by have q := pe_callB (p := p1) (pos := pc) call_len_seq hg hm PySem.boot_len (pa_cons (pe_var (pos := px) hN hv hd hcd) pa_nil he) (by decide) (by decide) he rfl; rw [hK] at q; exact q, fun Hf H w σ ε Q E P => ?_, hK⟩
  unfold mScrLen at P
  split at P
  · rename_i ns e
    obtain ⟨p, h1, h2⟩ := E.scr e
    exact ⟨.ref p, h1, p, ns.map V.int, rfl, .inl (E.sub.seq h2), by rw [List.length_map]; exact P.here E ⟨fun _ z => z, .int _⟩⟩
  · exact P.elim
def mScrIx (i : Nat) (mk : M RV) : M RV := fun ε => match ε[i]? with
  | some (some (.scr ns)) => (mk ε).bind fun r ε1 => (match view ε1 r with
    | some (.int k) => (match atI ns k with
      | some c => .ok (.fro (.int c)) ε1
      | none => .bad)
    | _ => .bad)
  | _ => .bad
theorem me_scrIx {e : Expr} {tk : TE} {mk : M RV} (i : Nat) (h : MO X C e tk mk) (hp : PlainIx e := by exact fun _ _ => rfl) (hN : X.N[i]? = some x := by rfl) (hv : Vis X.env.scope x := by first | exact Or.inl rfl | exact Or.inr (Or.inl rfl) | exact Or.inr (Or.inr rfl)) (hd : (x == ("__debug__" : Str)) = false := by decide)
    (hcd : (x == ("__classdict__" : Str)) = false := by decide) : ME X C (.Subscript (.Name x px) e pos) (tOp (rIxL C.K) (tVar i) tk) (mScrIx i mk) := by
  refine ⟨by have q := pe_ix (pos := pos) ix_list (pe_var (pos := px) hN hv hd hcd) h.pe hp; rw [h.hK] at q; exact q, fun Hf H w σ ε Q E P => ?_, h.hK⟩
  unfold mScrIx at P
  split at P
  · rename_i ns e0
    obtain ⟨p, h1, h2⟩ := E.scr e0
    refine ⟨.ref p, h1, h.sn Hf H w σ ε _ E ?_⟩
    cases em : mk ε with
    | err _ _ => rw [em] at P; exact P
    | bad => rw [em] at P; exact P
    | ok r ε1 =>
      rw [em] at P
      intro Hf1 H1 w1 S b E1 st rb
      have P1 := P.step st.noS
      simp only [R.bind] at P1
      split at P1
      · rename_i kv ek
        split at P1
        · rename_i c ec
          have qk := (rb.2.view E1 ek).int
          subst qk
          exact ⟨p, ns.map .int, kv, .int c, rfl, rfl, (st.mono.trans E1.sub).seq h2, at_ints ec, P1.here E1 ⟨fun _ z => z, .int c⟩⟩
        · exact P1.elim
      · exact P1.elim
  · exact P.elim
end
/-- a law's end: its mirror says True on the script -/
theorem law_says {K : PySem.W.Frag} {H : Hp} {a : Addr} {ns : List Int} {F : M RV} {ε' : En} (hS : SqL K H a (ns.map V.int)) (h : F [some (.scr ns)] = .ok (.fro (.bool true)) ε') : spM K 1 F [.ref a] H (fun v _ => v = .bl true) fun _ _ _ => False := by
  refine ⟨rfl, H, fun _ _ => False, [some (.scr ns)], ⟨Same.refl _, fun i => ?_, fun _ _ _ z => z.elim, fun _ _ z => z.elim, rfl, fun _ _ z => by cases z⟩, ?_⟩
  · cases i with
    | zero => exact ⟨fun _ z => z, a, rfl, hS⟩
    | succ i => exact fun _ z => z
  · rw [h]
    intro Hf' H' w' S b E st rb
    cases rb.2
    rfl
theorem hv_of {vs own : List Nat} (h : (vs.all fun i => !own.contains i) = true) : ∀ i, vs.contains i = true → own.contains i = false := by
  intro i hi
  have := List.all_eq_true.mp h i (by simpa using hi)
  simpa using this
def blkChk (N : List Str) (sc scope : Scope) (own : List (Str × Nat)) : Prop :=
  (∀ y ∈ scope.names, scope.names.lookup y.1 = some y.2) ∧ (∀ p ∈ own, N[p.2]? = some p.1) ∧ (∀ y ∈ scope.names, y.2 = .free → sc.names.lookup y.1 = some .cell ∨ sc.names.lookup y.1 = some .free) ∧ (∀ y ∈ scope.names, y.2 = .local ∨ y.2 = .cell → y.1 ∈ own.map (·.1) ∨ y.1 ∉ N)
instance {N : List Str} {sc scope : Scope} {own : List (Str × Nat)} : Decidable (blkChk N sc scope own) := by unfold blkChk; infer_instance
theorem blk_ok {N : List Str} {sc scope : Scope} {own : List (Str × Nat)} (hk : scope.kind = .function) (h : blkChk N sc scope own) : BlkOk N sc scope own := ⟨hk, h.1, h.2.1, h.2.2.1, h.2.2.2⟩
end M3

namespace M3
open PySem PySem.Spec L2
open PyProof.Rows hiding St

/-! ### mirrors worked out by simp -/
section
variable {ε ε' : En} {m m1 m2 m3 : M RV} {ms : M (List RV)} {md : M D} {mds : M (List D)} {c c1 c2 : M Bool} {s1 s2 : Sm} {i j n : Nat} {d e : D}
@[simp] theorem x_bok {α β : Type} (a : α) (f : α → En → R β) : (R.ok a ε).bind f = f a ε := rfl
@[simp] theorem x_berr {α β : Type} (x : Xn) (f : α → En → R β) : (R.err x ε).bind f = .err x ε := rfl
@[simp] theorem x_bbad {α β : Type} (f : α → En → R β) : (R.bad : R α).bind f = .bad := rfl
@[simp] theorem x_sok {α : Type} (a : α) (f : α → En → SR) : (R.ok a ε).toS f = f a ε := rfl
@[simp] theorem x_serr {α : Type} (x : Xn) (f : α → En → SR) : (R.err x ε).toS f = .err x ε := rfl
@[simp] theorem x_sbad {α : Type} (f : α → En → SR) : (R.bad : R α).toS f = .bad := rfl
@[simp] theorem x_oE : oE m ε = (m ε).bind mUnnew := rfl
@[simp] theorem x_fE : fE m ε = (m ε).bind mFrz := rfl
@[simp] theorem x_u1 : mUnnew (.fro d) ε = .ok (.fro d) ε := rfl
@[simp] theorem x_u2 (ds : List D) : mUnnew (.new (.lst ds)) ε = .ok (.fro (.list ds)) ε := rfl
@[simp] theorem x_u3 : mUnnew (.at_ i) ε = .ok (.at_ i) ε := rfl
@[simp] theorem x_u4 (v : V) : mUnnew (.raw v) ε = .ok (.raw v) ε := rfl
@[simp] theorem x_f1 : mFrz (.fro d) ε = .ok d ε := rfl
@[simp] theorem x_f2 : mFrz (.at_ i) ε = (match ε[i]? with
    | some (some (.own (.lst ds))) => .ok (.list ds) (ε.set i (some (.fro (.list ds))))
    | some (some (.fro d)) => .ok d ε
    | _ => .bad) := rfl
@[simp] theorem x_var : mVar i ε = (match ε[i]? with
  | some (some (.fro d)) => .ok (.fro d) ε
  | some (some (.own _)) => .ok (.at_ i) ε
  | some (some (.raw v)) => .ok (.raw v) ε
  | some (some (.scr _)) => .ok (.at_ i) ε
  | _ => .bad) := rfl
@[simp] theorem x_c : mC d ε = .ok (.fro d) ε := rfl
@[simp] theorem x_v1 : view ε (.fro d) = some d := rfl
@[simp] theorem x_v2 : view ε (.at_ i) = (match ε[i]? with
    | some (some (.own (.lst ds))) => some (.list ds)
    | some (some (.fro d)) => some d
    | _ => none) := rfl
@[simp] theorem x_va1 : viewAll ε [] = some [] := rfl
@[simp] theorem x_va2 (r : RV) (rs : List RV) : viewAll ε (r :: rs) = (match view ε r, viewAll ε rs with
    | some d, some ds => some (d :: ds)
    | _, _ => none) := rfl
@[simp] theorem x_o1 : outR (some (.val d)) ε = .ok (.fro d) ε := rfl
@[simp] theorem x_o2 (ds : List D) : outR (some (.newl ds)) ε = .ok (.new (.lst ds)) ε := rfl
@[simp] theorem x_o3 (ds : List D) : outR (some (.newt ds)) ε = .ok (.fro (.tuple ds)) ε := rfl
@[simp] theorem x_o5 : outR none ε = .bad := rfl
@[simp] theorem x_o6 (kvs : List (Key × D)) : outR (some (.newd kvs)) ε = .ok (.new (.dct kvs)) ε := rfl
@[simp] theorem x_msNil : msNil ε = .ok [] ε := rfl
@[simp] theorem x_msCons : msCons m ms ε = (m ε).bind fun r ε1 => (ms ε1).bind fun rs ε2 => .ok (r :: rs) ε2 := rfl
@[simp] theorem x_dsNil : dsNil ε = .ok [] ε := rfl
@[simp] theorem x_dsCons : dsCons md mds ε = (md ε).bind fun d ε1 => (mds ε1).bind fun ds ε2 => .ok (d :: ds) ε2 := rfl
@[simp] theorem x_callB (g : List D → Option Out) : mCallB g ms ε = (ms ε).bind fun rs ε1 => match viewAll ε1 rs with
  | some ds => outR (g ds) ε1
  | none => .bad := rfl
@[simp] theorem x_op (g : D → D → Option Out) : mOp g m1 m2 ε = (m1 ε).bind fun a ε1 => (m2 ε1).bind fun b ε2 => match view ε2 a, view ε2 b with
  | some d, some e => outR (g d e) ε2
  | _, _ => .bad := rfl
@[simp] theorem x_un (g : D → Option Out) : mUn g m ε = (m ε).bind fun a ε1 => match view ε1 a with
  | some d => outR (g d) ε1
  | none => .bad := rfl
@[simp] theorem x_yes : mYes ε = .ok true ε := rfl
@[simp] theorem x_tru : mTru m ε = (m ε).bind fun r ε1 => match (view ε1 r).bind truthD with
  | some k => .ok k ε1
  | none => .bad := rfl
@[simp] theorem x_bl : mBl m ε = (m ε).bind fun r ε1 => match r with
  | .fro (.bool k) => .ok k ε1
  | _ => .bad := rfl
@[simp] theorem x_and : mAnd c1 c2 ε = (c1 ε).bind fun k ε1 => if k = true then c2 ε1 else .ok false ε1 := rfl
@[simp] theorem x_or : mOr c1 c2 ε = (c1 ε).bind fun k ε1 => if k = true then .ok true ε1 else c2 ε1 := rfl
@[simp] theorem x_not : mNot c ε = (c ε).bind fun k ε1 => .ok (!k) ε1 := rfl
@[simp] theorem x_ifE : mIfE c m1 m2 ε = (c ε).bind fun k ε1 => if k = true then m1 ε1 else m2 ε1 := rfl
@[simp] theorem x_t1 : truthD .none = some false := rfl
@[simp] theorem x_t2 (b : Bool) : truthD (.bool b) = some b := rfl
@[simp] theorem x_orV : mOrV m1 m2 ε = (m1 ε).bind fun r ε1 => match (view ε1 r).bind truthD with
  | some k => if k = true then .ok r ε1 else m2 ε1
  | none => .bad := rfl
@[simp] theorem x_andV : mAndV m1 m2 ε = (m1 ε).bind fun r ε1 => match (view ε1 r).bind truthD with
  | some k => if k = true then m2 ε1 else .ok r ε1
  | none => .bad := rfl
@[simp] theorem x_notV : mNotV m ε = (m ε).bind fun r ε1 => match (view ε1 r).bind truthD with
  | some k => .ok (.fro (.bool (!k))) ε1
  | none => .bad := rfl
@[simp] theorem x_chain (g g' : D → D → Option Bool) : mChain g g' m1 m2 m3 ε = (m1 ε).bind fun a ε1 => (m2 ε1).bind fun b ε2 => match view ε2 a, view ε2 b with
  | some d, some e => (match g d e with
    | some k => if k = true then (m3 ε2).bind fun c ε3 => (match view ε3 b, view ε3 c with
        | some e, some f => outR (bo g' e f) ε3
        | _, _ => .bad) else .ok (.fro (.bool false)) ε2
    | none => .bad)
  | _, _ => .bad := rfl
@[simp] theorem x_bo (g : D → D → Option Bool) : bo g d e = (g d e).map fun b => .val (.bool b) := rfl
@[simp] theorem x_lst : mLst mds ε = (mds ε).bind fun ds ε1 => if ds.length ≤ sizeLine then .ok (.new (.lst ds)) ε1 else .bad := rfl
@[simp] theorem x_tup : mTup mds ε = (mds ε).bind fun ds ε1 => if ds.length ≤ sizeLine then .ok (.fro (.tuple ds)) ε1 else .bad := rfl
@[simp] theorem x_noPart : mNoPart ε = .ok none ε := rfl
@[simp] theorem x_part : mPart m ε = (m ε).bind fun r ε1 => match view ε1 r with
  | some (.int i) => .ok (some i) ε1
  | _ => .bad := rfl
@[simp] theorem x_sl (g : D → Option Int → Option Int → Option Out) (lo hi : M (Option Int)) : mSl g m lo hi ε = (m ε).bind fun a ε1 => (lo ε1).bind fun l ε2 => (hi ε2).bind fun h ε3 => match view ε3 a with
  | some d => outR (g d l h) ε3
  | none => .bad := rfl
@[simp] theorem x_rev : mRev m ε = (m ε).bind fun r ε1 => match view ε1 r with
  | some (.list ds) => .ok (.new (.lst ds.reverse)) ε1
  | _ => .bad := rfl
@[simp] theorem x_bm (g : D → List D → Option Out) : mBM g m ms ε = (m ε).bind fun a ε1 => match a with
  | .fro (.str x) => (ms ε1).bind fun rs ε2 => (match viewAll ε2 rs with
    | some ds => outR (g (.str x) ds) ε2
    | none => .bad)
  | _ => .bad := rfl
@[simp] theorem x_isi (T : String) : mIsi T m ε = (m ε).bind fun r ε1 => match view ε1 r with
  | some d => (match isiD d T with
    | some b => .ok (.fro (.bool b)) ε1
    | none => .bad)
  | none => .bad := rfl
@[simp] theorem x_isi2 (T U : String) : mIsi2 T U m ε = (m ε).bind fun r ε1 => match view ε1 r with
  | some d => (match isiAny d [T, U] with
    | some b => .ok (.fro (.bool b)) ε1
    | none => .bad)
  | none => .bad := rfl
@[simp] theorem x_lenSet : mLenSet m ε = (m ε).bind fun r ε1 => match view ε1 r with
  | some (.list ds) => (match keysD ds with
    | some ks => if ks.length ≤ 4000 then .ok (.fro (.int (ddK ks).length)) ε1 else .bad
    | none => .bad)
  | _ => .bad := rfl
@[simp] theorem x_it : mIt md ε = (md ε).bind fun d ε1 => match itemsD d with
  | some ds => .ok ds ε1
  | none => .bad := rfl
@[simp] theorem x_rng1 : mRng1 ms ε = (ms ε).bind fun rs ε1 => match viewAll ε1 rs with
  | some [.int j] => if -(2 ^ 62) ≤ j ∧ j < 2 ^ 62 then .ok (rngD 0 j.toNat) ε1 else .bad
  | _ => .bad := rfl
@[simp] theorem x_lc (mi : M (List D)) (p : Pat) (vs : List Nat) : mLc mi p vs c md ε = (mi ε).bind fun ds ε1 => match lcLoop p vs c md ds [] (wipeE ε1 vs) with
  | .ok acc ε2 => .ok (.new (.lst acc)) (restE ε1 ε2 vs)
  | _ => .bad := rfl
@[simp] theorem x_call (F : M RV) : mCall n F ms ε = (ms ε).bind fun rs ε1 =>
  if rs.length = n ∧ (ats rs).Nodup then
    match argsE ε1 rs with
    | some εc => (match F εc with
      | .ok (.at_ _) _ => .bad
      | .ok (.fro d) εo => if εo.length = n then .ok (.fro d) (wb rs εo ε1) else .bad
      | .ok (.new o) εo => if εo.length = n then .ok (.new o) (wb rs εo ε1) else .bad
      | .ok (.raw v) εo => if εo.length = n then .ok (.raw v) (wb rs εo ε1) else .bad
      | .err x εo => if εo.length = n then .err x (wb rs εo ε1) else .bad
      | .bad => .bad)
    | none => .bad
  else .bad := rfl
@[simp] theorem x_msApp (is : List Int) : msApp is ms ε = (ms ε).bind fun rs ε1 => .ok (rs ++ is.map fun i => .fro (.int i)) ε1 := rfl
@[simp] theorem x_ats0 : ats [] = [] := rfl
@[simp] theorem x_ats1 (rs : List RV) : ats (.at_ i :: rs) = i :: ats rs := rfl
@[simp] theorem x_ats2 (rs : List RV) : ats (.fro d :: rs) = ats rs := rfl
@[simp] theorem x_ae0 : argsE ε [] = some [] := rfl
@[simp] theorem x_ae1 (r : RV) (rs : List RV) : argsE ε (r :: rs) = (match argSV ε r, argsE ε rs with
    | some s, some εc => some (some s :: εc)
    | _, _ => none) := rfl
@[simp] theorem x_as1 : argSV ε (.fro d) = some (.fro d) := rfl
@[simp] theorem x_as2 : argSV ε (.at_ i) = (match ε[i]? with
    | some (some s) => some s
    | _ => none) := rfl
@[simp] theorem x_wb0 (εc : En) : wb [] εc ε = ε := by cases εc <;> rfl
@[simp] theorem x_wb1 (rs : List RV) (e : Option SV) (εc : En) : wb (.at_ i :: rs) (e :: εc) ε = (wb rs εc ε).set i e := rfl
@[simp] theorem x_wb2 (rs : List RV) (e : Option SV) (εc : En) : wb (.fro d :: rs) (e :: εc) ε = wb rs εc ε := rfl
@[simp] theorem x_seq : sSeq s1 s2 ε = (s1 ε).seq s2 := rfl
@[simp] theorem x_q1 : (SR.nx ε).seq s1 = s1 ε := rfl
@[simp] theorem x_q2 (r : RV) : (SR.rt r ε).seq s1 = .rt r ε := rfl
@[simp] theorem x_q3 : (SR.bk ε).seq s1 = .bk ε := rfl
@[simp] theorem x_q4 : (SR.ct ε).seq s1 = .ct ε := rfl
@[simp] theorem x_q5 : SR.bad.seq s1 = .bad := rfl
@[simp] theorem x_q6 (x : Xn) : (SR.err x ε).seq s1 = .err x ε := rfl
@[simp] theorem x_next : sNext ε = .nx ε := rfl
@[simp] theorem x_expr : sExpr m ε = (m ε).toS fun _ ε1 => .nx ε1 := rfl
@[simp] theorem x_ret : sRet m ε = (m ε).toS fun r ε1 => .rt r ε1 := rfl
@[simp] theorem x_if : sIf c s1 s2 ε = (c ε).toS fun k ε1 => if k = true then s1 ε1 else s2 ε1 := rfl
@[simp] theorem x_set : sSet i m ε = (m ε).toS fun r ε1 => match mStore i r ε1 with
  | some ε2 => .nx ε2
  | none => .bad := rfl
@[simp] theorem x_store (r : RV) : mStore i r ε = (if i < ε.length then
    match r with
    | .fro d => some (ε.set i (some (.fro d)))
    | .new o => some (ε.set i (some (.own o)))
    | .raw v => some (ε.set i (some (.raw v)))
    | .at_ j => match ε[j]? with
      | some (some (.own (.lst ds))) => some ((ε.set j (some (.fro (.list ds)))).set i (some (.fro (.list ds))))
      | some (some (.fro d)) => some (ε.set i (some (.fro d)))
      | _ => none
  else none) := rfl
@[simp] theorem x_for (mi : M (List D)) (p : Pat) : sFor mi p s1 ε = (mi ε).toS fun ds ε1 => sLoop p s1 ds ε1 := rfl
@[simp] theorem x_bn : bindP (.nm i) d ε = if i < ε.length then some (ε.set i (some (.fro d))) else none := by unfold bindP; rfl
@[simp] theorem x_bt (ps : List Pat) (ds : List D) : bindP (.tp ps) (.tuple ds) ε = bindPs ps ds ε := by unfold bindP; rfl
@[simp] theorem x_btl (ps : List Pat) (ds : List D) : bindP (.tp ps) (.list ds) ε = bindPs ps ds ε := by unfold bindP; rfl
@[simp] theorem x_bp0 : bindPs [] [] ε = some ε := by unfold bindPs; rfl
@[simp] theorem x_bp1 (p : Pat) (ps : List Pat) (ds : List D) : bindPs (p :: ps) (d :: ds) ε = (match bindP p d ε with
    | some ε1 => bindPs ps ds ε1
    | none => none) := by
  conv => lhs; unfold bindPs
  all_goals rfl
@[simp] theorem x_unp (p : Pat) : sUnp md p ε = (md ε).toS fun d ε1 => match bindP p d ε1 with
  | some ε2 => .nx ε2
  | none => .bad := rfl
@[simp] theorem x_par (is : List Nat) : sPar is ms ε = (ms ε).toS fun rs ε1 => match mStores is rs ε1 with
  | some ε2 => .nx ε2
  | none => .bad := rfl
@[simp] theorem x_sts0 : mStores [] [] ε = some ε := rfl
@[simp] theorem x_sts1 (is : List Nat) (r : RV) (rs : List RV) : mStores (i :: is) (r :: rs) ε = (if noAt i rs = true then (match mStore i r ε with
    | some ε1 => mStores is rs ε1
    | none => none) else none) := rfl
@[simp] theorem x_na0 : noAt i [] = true := rfl
@[simp] theorem x_na1 (rs : List RV) : noAt i (.at_ j :: rs) = (!(j == i) && noAt i rs) := rfl
@[simp] theorem x_na2 (rs : List RV) : noAt i (.fro d :: rs) = noAt i rs := rfl
@[simp] theorem x_na3 (rs : List RV) (o : OV) : noAt i (.new o :: rs) = noAt i rs := rfl
@[simp] theorem x_append : sAppend i md ε = (match ε[i]? with
  | some (some (.own (.lst _))) => (md ε).toS fun d ε1 => (match ε1[i]? with
    | some (some (.own (.lst ds))) => if ds.length < sizeLine then .nx (ε1.set i (some (.own (.lst (ds ++ [d]))))) else .bad
    | _ => .bad)
  | _ => .bad) := rfl
@[simp] theorem x_setItem : sSetItem i m md ε = (md ε).toS fun d ε1 => match ε1[i]? with
  | some (some (.own (.lst _))) => (m ε1).toS fun r ε2 => (match ε2[i]?, view ε2 r with
    | some (some (.own (.lst ds))), some (.int k) => (match ixN ds.length k with
      | some j => .nx (ε2.set i (some (.own (.lst (ds.set j d)))))
      | none => .bad)
    | _, _ => .bad)
  | _ => .bad := rfl
@[simp] theorem x_stTurn : mStTurn i ε = (match ε[i]? with
  | some (some (.own (.st _ t))) => .ok (.fro (.int t)) ε
  | _ => .bad) := rfl
@[simp] theorem x_stLen : mStLen i ε = (match ε[i]? with
  | some (some (.own (.st cs _))) => .ok (.fro (.int cs.length)) ε
  | _ => .bad) := rfl
@[simp] theorem x_stCell : mStCell i j ε = (match ε[i]?, ε[j]? with
  | some (some (.own (.st cs _))), some (some (.fro (.int k))) => (match atI cs k with
    | some c => .ok (.fro (.int c)) ε
    | none => .bad)
  | _, _ => .bad) := rfl
@[simp] theorem x_sTurn : sStTurn i m ε = (m ε).toS fun r ε1 => match ε1[i]?, view ε1 r with
  | some (some (.own (.st cs _))), some (.int t) => .nx (ε1.set i (some (.own (.st cs t))))
  | _, _ => .bad := rfl
@[simp] theorem x_stPut (k : Nat) : sStPut i j k m1 m2 ε = (m1 ε).toS fun ra ε1 => (m2 ε1).toS fun rb ε2 => match view ε2 ra, view ε2 rb, ε2[i]?, ε2[k]? with
  | some (.int a), some (.int b), some (some (.own (.st cs t))), some (some (.fro (.int kk))) => if 0 < b ∧ b.natAbs.log2 < 9000 ∧ j < ε2.length ∧ j ≠ i then
      (match ixN cs.length kk with
        | some jj => .nx ((ε2.set i (some (.own (.st (cs.set jj (a / b)) t)))).set j (some (.fro (.int (a % b)))))
        | none => .bad)
    else .bad
  | _, _, _, _ => .bad := rfl
@[simp] theorem x_retSt (t : Int) : sRetSt j t ε = (match ε[j]? with
  | some (some (.own (.lst ds))) => (match intsD ds with
    | some cs => .rt (.new (.st cs t)) (ε.set j none)
    | none => .bad)
  | _ => .bad) := rfl
@[simp] theorem x_scrSl (lo hi : M (Option Int)) : mScrSl i lo hi ε = (match ε[i]? with
  | some (some (.scr ns)) => (lo ε).bind fun l ε2 => (hi ε2).bind fun h ε3 => .ok (.new (.lst (cutD (ns.map PyData.int) l h))) ε3
  | _ => .bad) := rfl
@[simp] theorem x_fnF (own : List Nat) (N : Nat) (body : Sm) : fnF own N body ε = (if parOk own 0 ε = true ∧ ε.length ≤ N then
    match body (ε ++ List.replicate (N - ε.length) none) with
    | .nx ε' => .ok (.fro .none) (outE own ε' 0 ε)
    | .rt (.fro d) ε' => .ok (.fro d) (outE own ε' 0 ε)
    | .rt (.raw v) ε' => .ok (.raw v) (outE own ε' 0 ε)
    | .rt (.new o) ε' => .ok (.new o) (outE own ε' 0 ε)
    | .rt (.at_ i) ε' => if i < ε.length then .bad else (match ε'[i]? with
      | some (some (.own o)) => .ok (.new o) (outE own ε' 0 ε)
      | some (some (.fro d)) => .ok (.fro d) (outE own ε' 0 ε)
      | _ => .bad)
    | .err x ε' => .err x (outE own ε' 0 ε)
    | _ => .bad
  else .bad) := rfl
@[simp] theorem x_p0 (own : List Nat) : parOk own i [] = true := rfl
@[simp] theorem x_p1 (own : List Nat) (o : OV) : parOk own i (some (.own o) :: ε) = (own.contains i && parOk own (i + 1) ε) := rfl
@[simp] theorem x_p2 (own : List Nat) : parOk own i (some (.fro d) :: ε) = parOk own (i + 1) ε := rfl
@[simp] theorem x_p3 (own : List Nat) (ns : List Int) : parOk own i (some (.scr ns) :: ε) = parOk own (i + 1) ε := rfl
@[simp] theorem x_e0 (own : List Nat) : outE own ε' i [] = [] := rfl
@[simp] theorem x_e1 (own : List Nat) (e : Option SV) : outE own ε' i (e :: ε) = (if own.contains i = true then ε'.getD i none else e) :: outE own ε' (i + 1) ε := rfl
@[simp] theorem x_w0 : wipeE ε [] = ε := rfl
@[simp] theorem x_w1 (v : Nat) (vs : List Nat) : wipeE ε (v :: vs) = (wipeE ε vs).set v none := rfl
@[simp] theorem x_r0 : restE ε ε' [] = ε' := rfl
@[simp] theorem x_r1 (v : Nat) (vs : List Nat) : restE ε ε' (v :: vs) = (restE ε ε' vs).set v (ε.getD v none) := rfl
end

/-! ### list comprehensions by a step -/
/-- by an invariant of the slots and of what has come -/
theorem lc_inv {p : Pat} {vs : List Nat} {m : M D} (I : List D → En → Prop) {N : Nat} (hN : N ≤ sizeLine) : ∀ {ds acc : List D} {ε : En}, I acc ε → (∀ d ∈ ds, ∀ acc ε, I acc ε → acc.length < N → ∃ ε1 y ε3, bindP p d ε = some ε1 ∧ m ε1 = .ok y ε3 ∧ I (acc ++ [y]) (wipeE ε3 vs)) → acc.length + ds.length ≤ N →
    ∃ out ε', lcLoop p vs mYes m ds acc ε = .ok out ε' ∧ I out ε' ∧ out.length = acc.length + ds.length
  | [], acc, ε, h0, _, _ => ⟨acc, ε, by unfold lcLoop; rfl, h0, rfl⟩
  | d :: ds, acc, ε, h0, h, hl => by
    rw [List.length_cons] at hl
    obtain ⟨ε1, y, ε3, h1, h2, h3⟩ := h d List.mem_cons_self acc ε h0 (by omega)
    obtain ⟨out, ε', e1, e2, e3⟩ := lc_inv I hN (ds := ds) h3 (fun x hx => h x (List.mem_cons_of_mem _ hx)) (by rw [List.length_append, List.length_singleton]; omega)
    refine ⟨out, ε', ?_, e2, by rw [e3, List.length_append, List.length_singleton, List.length_cons]; omega⟩
    unfold lcLoop
    rw [h1]
    simp only [x_yes, h2]
    rw [if_pos (by omega)]
    exact e1
/-- for, by an invariant of what has been walked -/
theorem loop_nx {p : Pat} {body : Sm} (I : Nat → En → Prop) : ∀ {ds : List D} {ε : En} {k : Nat}, I k ε → (∀ (i : Nat) d ε, ds[i]? = some d → I (k + i) ε → ∃ ε1 ε2, bindP p d ε = some ε1 ∧ body ε1 = .nx ε2 ∧ I (k + i + 1) ε2) →
    ∃ ε', sLoop p body ds ε = .nx ε' ∧ I (k + ds.length) ε'
  | [], ε, k, h0, _ => ⟨ε, by unfold sLoop; rfl, h0⟩
  | d :: ds, ε, k, h0, h => by
    obtain ⟨ε1, ε2, h1, h2, h3⟩ := h 0 d ε rfl h0
    unfold sLoop
    rw [h1]
    simp only [h2]
    obtain ⟨ε', e1, e2⟩ := loop_nx I (ds := ds) (k := k + 1) h3 fun i x ε hi hI => by
      have e : k + 1 + i = k + (i + 1) := by omega
      rw [e] at hI ⊢
      exact h (i + 1) x ε (by simpa using hi) hI
    refine ⟨ε', e1, ?_⟩
    have e : k + (d :: ds).length = k + 1 + ds.length := by rw [List.length_cons]; omega
    rw [e]; exact e2
end M3

namespace M3
open PySem PySem.Spec L2
open PyProof.Rows hiding St

/-! ### a statement that is not reached -/

/-! ### the module's own tuples -/
/-! ### dicts of frozen data -/
def keyD : D → Option Key
  | .int i => some (.inl i)
  | .str z => some (.inr z)
  | _ => none
theorem keyD_v {C : Ct} {Hf H : Hp} {v : V} {d : D} {k : Key} (h : Vw C Hf H v d) (e : keyD d = some k) : v = kV k := by
  cases d with
  | int i => cases e; exact h.int
  | str z => cases e; exact h.str
  | _ => cases e
def valD (kvs : List (Key × D)) (k : Key) : Option D := (kvs.find? fun kv => decide (kv.1 = k)).map (·.2)
def putD (kvs : List (Key × D)) (k : Key) (d : D) : List (Key × D) :=
  if (kvs.any fun kv => decide (kv.1 = k)) = true then kvs.map (fun kv => if kv.1 = k then (kv.1, d) else kv) else kvs ++ [(k, d)]
section
variable {K : PySem.W.Frag} {Hf H : Hp}
theorem KvAll.val (k : Key) : ∀ {vs : List (Key × V)} {ds : List (Key × D)}, KvAll K Hf vs ds → (valV vs k = none ∧ valD ds k = none) ∨ ∃ v d, valV vs k = some v ∧ valD ds k = some d ∧ Dq K Hf v d
  | _, _, .nil => .inl ⟨rfl, rfl⟩
  | _, _, .cons (k := j) (v := v) (d := d) (vs := vs) (ds := ds) a b => by
    by_cases e : j = k
    · exact .inr ⟨v, d, by simp [valV, e], by simp [valD, e], a⟩
    · have e1 : valV ((j, v) :: vs) k = valV vs k := by simp [valV, e]
      have e2 : valD ((j, d) :: ds) k = valD ds k := by simp [valD, e]
      rw [e1, e2]
      exact b.val k
theorem KvAll.any (k : Key) : ∀ {vs : List (Key × V)} {ds : List (Key × D)}, KvAll K Hf vs ds → (vs.any fun kv => decide (kv.1 = k)) = ds.any fun kv => decide (kv.1 = k)
  | _, _, .nil => rfl
  | _, _, .cons a b => by rw [List.any_cons, List.any_cons, b.any k]
theorem KvAll.len : ∀ {vs : List (Key × V)} {ds : List (Key × D)}, KvAll K Hf vs ds → vs.length = ds.length
  | _, _, .nil => rfl
  | _, _, .cons a b => by rw [List.length_cons, List.length_cons, b.len]
theorem KvAll.over {k : Key} {v : V} {d : D} (h : Dq K Hf v d) : ∀ {vs : List (Key × V)} {ds : List (Key × D)}, KvAll K Hf vs ds → KvAll K Hf (vs.map fun kv => if kv.1 = k then (kv.1, v) else kv) (ds.map fun kv => if kv.1 = k then (kv.1, d) else kv)
  | _, _, .nil => .nil
  | _, _, .cons (k := j) a b => by
    rw [List.map_cons, List.map_cons]
    by_cases e : j = k
    · rw [if_pos e, if_pos e]
      exact .cons h (b.over h)
    · rw [if_neg e, if_neg e]
      exact .cons a (b.over h)
theorem KvAll.app : ∀ {vs vs' : List (Key × V)} {ds ds' : List (Key × D)}, KvAll K Hf vs ds → KvAll K Hf vs' ds' → KvAll K Hf (vs ++ vs') (ds ++ ds')
  | _, _, _, _, .nil, h => h
  | _, _, _, _, .cons a b, h => .cons a (b.app h)
theorem KvAll.put {k : Key} {v : V} {d : D} (h : Dq K Hf v d) {vs : List (Key × V)} {ds : List (Key × D)} (a : KvAll K Hf vs ds) : KvAll K Hf (putK vs k v) (putD ds k d) := by
  unfold putK putD
  rw [a.any k]
  split
  · exact a.over h
  · exact a.app (.cons h .nil)
end

/-! ### dicts in slots -/
def dctAt (ε : En) (i : Nat) : Option (List (Key × D)) := match ε[i]? with
  | some (some (.own (.dct kvs))) => some kvs
  | _ => none
def keyR (ε : En) (r : RV) : Option Key := (view ε r).bind keyD
section
variable {C : Ct} {Hf H : Hp} {w : Own} {σ : L2.St} {ε : En} {i : Nat} {kvs : List (Key × D)}
theorem EnR.ownDct (E : EnR C Hf H w σ ε) (e : dctAt ε i = some kvs) : ∃ p vs, σ[i]? = some (some (.ref p)) ∧ H p = some (.dK vs) ∧ KvAll C.K Hf vs kvs := by
  unfold dctAt at e
  split at e
  · rename_i ks q
    cases e
    have z := E.slot i
    rw [q] at z
    obtain ⟨p, h1, _, vs, h2, h3⟩ := z
    exact ⟨p, vs, h1, h2, h3⟩
  · cases e
theorem EnR.key (E : EnR C Hf H w σ ε) {v : V} {r : RV} {k : Key} (h : opR C Hf σ v r) (e : keyR ε r = some k) : v = kV k := by
  unfold keyR at e
  cases q : view ε r with
  | none => rw [q] at e; cases e
  | some d => rw [q] at e; exact keyD_v (h.view E q) e
/-- what stands under a key -/
theorem EnR.dget (E : EnR C Hf H w σ ε) {v : V} {r : RV} {k : Key} {p : Addr} (hp : σ[i]? = some (some (.ref p))) (e : dctAt ε i = some kvs) (h : opR C Hf σ v r) (ek : keyR ε r = some k) :
    (DGet H p v none ∧ valD kvs k = none) ∨ ∃ u d, DGet H p v (some u) ∧ valD kvs k = some d ∧ Dq C.K Hf u d := by
  obtain ⟨p2, vs, h1, h2, h3⟩ := E.ownDct e
  rw [hp] at h1
  cases h1
  obtain rfl := E.key h ek
  have g := DGet.k (k := k) h2
  rcases h3.val k with ⟨e1, e2⟩ | ⟨u, d, e1, e2, q⟩
  · rw [e1] at g
    exact .inl ⟨g, e2⟩
  · rw [e1] at g
    exact .inr ⟨u, d, g, e2, q⟩
end
section
variable {X : Cx} {C : Ct} {x : Str} {px pos apos : Pos} {e f : Expr} {ty tz : TE} {m m2 : M RV} {k : Nat}
/-- k in d, k not in d -/
def dInR (neg : Bool) (i : Nat) (r : RV) (ε : En) : R RV := match dctAt ε i, keyR ε r with
  | some kvs, some k => .ok (.fro (.bool (neg ^^ (valD kvs k).isSome))) ε
  | _, _ => .bad
def mDIn (neg : Bool) (i : Nat) (m : M RV) : M RV := fun ε => (m ε).bind (dInR neg i)
theorem snd_dNotIn {i : Nat} (h : Snd C relO ty m) : Snd C relRV (tDNotIn ty (tVar i)) (mDIn true i m) := by
  refine Snd.bind (Rel1 := relO) (t1 := ty) (t2 := fun y σ H1 (Q : VK) => tVar i σ H1 fun x H2 => ∃ a o, x = .ref a ∧ DGet H2 a y o ∧ Q (V.bl (!o.isSome)) H2) (m2 := dInR true i) h fun Hf H w σ ε S b a Q E rb P => ?_
  unfold dInR at P
  split at P
  · rename_i ks kk e1 e2
    obtain ⟨p, vs, h1, _, _⟩ := E.ownDct e1
    rcases E.dget h1 e1 rb.2 e2 with ⟨g, z⟩ | ⟨u, d, g, z, q⟩
    · rw [z] at P; exact ⟨.ref p, h1, p, _, rfl, g, P.here E ⟨fun _ z => z, .bl _⟩⟩
    · rw [z] at P; exact ⟨.ref p, h1, p, _, rfl, g, P.here E ⟨fun _ z => z, .bl _⟩⟩
  · exact P.elim
theorem mt_dNotIn (i : Nat) (hr : Room k X.A) (h : MO X C e ty m) (hN : X.N[i]? = some x := by rfl) (hv : Vis X.env.scope x := by first | exact Or.inl rfl | exact Or.inr (Or.inl rfl) | exact Or.inr (Or.inr rfl)) (hd : (x == ("__debug__" : Str)) = false := by decide)
    (hcd : (x == ("__classdict__" : Str)) = false := by decide) (hm : behindInMarks .NotIn (.Name x px) = false := by with_unfolding_all rfl) : MT X C (.Compare e [.NotIn] [.Name x px] pos) (tTest (tDNotIn ty (tVar i))) (mBl (mDIn true i m)) :=
  ⟨pt_cmp (pc_dnotin (hu_of hr) h.pe (pe_var hN hv hd hcd)) hm, snd_bool (snd_dNotIn h.sn), h.hK⟩
/-- d.get(k, z) -/
def dGetR (i : Nat) (r z : RV) (ε : En) : R RV := match dctAt ε i, keyR ε r with
  | some kvs, some k => (match valD kvs k with
    | some d => .ok (.fro d) ε
    | none => (match z with
      | .fro d => .ok (.fro d) ε
      | _ => .bad))
  | _, _ => .bad
def mDGet2 (i : Nat) (m m2 : M RV) : M RV := fun ε => match dctAt ε i with
  | some _ => (m ε).bind fun r ε1 => (m2 ε1).bind fun z ε2 => dGetR i r z ε2
  | none => .bad
end
/-! ### dict(list of pairs) -/
end M3

namespace M3
open PySem PySem.Spec L2
open PyProof.Rows hiding St

/-! ### a, b, *c = a list or tuple -/
/-! ### the module's own dicts -/
/-! ### a dict's display, its keys texts -/
/-! ### a, b = x, y where a name is a cell: by a tuple -/
theorem RVs.len {C : Ct} {Hf H : Hp} {w : Own} {σ : L2.St} : ∀ {S : Addr → Prop} {vs : List V} {rs : List RV}, RVs C Hf H w σ S vs rs → vs.length = rs.length
  | _, _, _, .nil _ => rfl
  | _, _, _, .cons _ h2 _ _ => congrArg Nat.succ (RVs.len h2)
end M3

namespace M3
open PySem PySem.Spec L2
open PyProof.Rows hiding St
/-! ### lists of lists that are owned -/
section
variable {K : PySem.W.Frag} {Hf Hf' H H' : Hp}
theorem NlR.app : ∀ {qs : List Addr} {dss : List (List D)} {q : Addr} {vs : List V} {ds : List D}, NlR K Hf H qs dss → H q = some (.lst vs) → DqAll K Hf vs ds → NlR K Hf H (qs ++ [q]) (dss ++ [ds])
  | _, _, _, _, _, .nil, h, a => .cons h a .nil
  | _, _, _, _, _, .cons h1 a1 b, h, a => .cons h1 a1 (b.app h a)
theorem NlR.length : ∀ {qs : List Addr} {dss : List (List D)}, NlR K Hf H qs dss → qs.length = dss.length
  | _, _, .nil => rfl
  | _, _, .cons _ _ b => congrArg Nat.succ b.length
theorem NlR.get : ∀ {qs : List Addr} {dss : List (List D)} {n : Nat} {ds : List D}, NlR K Hf H qs dss → dss[n]? = some ds → ∃ q vs, qs[n]? = some q ∧ H q = some (.lst vs) ∧ DqAll K Hf vs ds
  | _, _, _, _, .nil, e => by simp at e
  | _, _, 0, _, .cons h a _, e => by simp at e; subst e; exact ⟨_, _, rfl, h, a⟩
  | _, _, n + 1, _, .cons _ _ b, e => by
    rw [List.getElem?_cons_succ] at e
    obtain ⟨q, vs, h1, h2, h3⟩ := b.get e
    exact ⟨q, vs, by rw [List.getElem?_cons_succ]; exact h1, h2, h3⟩
/-- one of the lists is another one -/
theorem NlR.set : ∀ {qs : List Addr} {dss : List (List D)} {n : Nat} {q : Addr} {us : List V} {es : List D}, NlR K Hf H qs dss → qs.Nodup → qs[n]? = some q → DqAll K Hf us es → NlR K Hf (upd H q (.lst us)) qs (dss.set n es)
  | _, _, _, _, _, _, .nil, _, e, _ => by simp at e
  | q0 :: qs, _, 0, q, us, es, .cons h a b, nd, e, k => by
    simp at e
    subst e
    rw [List.nodup_cons] at nd
    rw [List.set_cons_zero]
    exact .cons upd_same k (b.keep (Same.refl _) fun x hx => upd_ne fun z => nd.1 (by rw [← z]; exact hx))
  | q0 :: qs, _, n + 1, q, us, es, .cons h a b, nd, e, k => by
    rw [List.getElem?_cons_succ] at e
    rw [List.nodup_cons] at nd
    rw [List.set_cons_succ]
    have ne : q0 ≠ q := fun z => nd.1 (by rw [z]; exact List.mem_of_getElem? e)
    exact .cons (by rw [upd_ne ne]; exact h) a (b.set nd.2 e k)
theorem NlR.dq : ∀ {qs : List Addr} {dss : List (List D)}, NlR K Hf H qs dss → Same Hf Hf' → (∀ a ∈ qs, Hf' a = H a) → DqAll K Hf' (qs.map V.ref) (dss.map PyData.list)
  | _, _, .nil, _, _ => .nil
  | _, _, .cons h a b, s, k => .cons (.lst (by rw [k _ List.mem_cons_self]; exact h) (a.mono s)) (b.dq s fun x hx => k x (List.mem_cons_of_mem _ hx))
end
section
variable {C : Ct} {Hf H : Hp} {w : Own} {σ : L2.St} {ε : En} {i : Nat} {dss : List (List D)}
end
end M3

namespace M3
open PySem PySem.Spec L2
open PyProof.Rows hiding St
/-! ### [[..] for ..]: a list of lists that are owned -/
section
variable {X : Cx} {C : Ct}
end
end M3

namespace M3
open PySem PySem.Spec L2
open PyProof.Rows hiding St
/-! ### abs, is of truths -/
def gAbs : List D → Option Out
  | [.int i] => some (.val (.int (if i < 0 then -i else i)))
  | _ => none
theorem cs_abs {C : Ct} : CallS C (fun xs H Q => ∃ i, xs = [.int i] ∧ Q (.int (if i < 0 then -i else i)) H) gAbs := by
  intro Hf H xs ds Q sm h P
  unfold gAbs at P
  split at P
  · obtain ⟨v, rfl, q1⟩ := h.one
    exact ⟨_, by rw [q1.int], P _ (.int _)⟩
  · exact P.elim
/-! ### a dict's display, read at once -/
section
variable {X : Cx} {C : Ct} {pos apos : Pos} {o e f : Expr} {to ty tz : TE} {m0 m m2 : M RV} {k : Nat}
end
/-! ### a module's dict, subscripted -/
section
variable {X : Cx} {C : Ct} {x : Str} {px pos : Pos} {e : Expr} {kvs : List (Str × D)} {ty : TE} {m : M RV}
end
end M3

namespace M3
open PySem PySem.Spec L2
open PyProof.Rows hiding St
/-! ### f(..), its one argument a new thing that is the callee's own -/
def mCall1N (F : M RV) (m0 : M RV) : M RV := fun ε => (m0 ε).bind fun r ε1 => match r with
  | .new o => (match F [some (.own o)] with
    | .ok (.fro d) _ => .ok (.fro d) ε1
    | _ => .bad)
  | _ => .bad
section
variable {C : Ct} {te : TE} {m0 F : M RV}
theorem snd_call1N {E : L2.St → XK} (h : Snd C relRV te m0) : Snd C relRV (fun σ H Q => te σ H fun v H1 => spM C.K 1 F [v] H1 Q (E σ)) (mCall1N F m0) := by
  intro Hf H w σ ε Q En P
  unfold mCall1N at P
  refine h Hf H w σ ε _ En ?_
  cases e0 : m0 ε with
  | err x ε1 => rw [e0] at P; exact P
  | bad => rw [e0] at P; exact P
  | ok r ε1 =>
    rw [e0] at P
    intro Hf1 H1 w1 S b E1 st rb
    simp only [R.bind] at P
    split at P
    · rename_i o
      obtain ⟨p, rfl, ow, hf, dis⟩ := rb
      split at P
      · rename_i d εo eF
        have Ec : EnR ⟨C.K, [], [], noW⟩ Hf1 H1 (fun j a => j = 0 ∧ S a) ([V.ref p].map some) [some (.own o)] :=
          ⟨E1.sub, fun i => by
            cases i with
            | zero => exact ⟨p, rfl, by
                have e : (fun a => (0 : Nat) = 0 ∧ S a) = S := by funext a; exact propext ⟨fun z => z.2, fun z => ⟨rfl, z⟩⟩
                show OwnR C.K Hf1 H1 p (fun a => (0 : Nat) = 0 ∧ S a) o
                rw [e]; exact ow⟩
            | succ i => exact fun a z => absurd z.1 (by omega), fun i j a h1 h2 => by rw [h1.1, h2.1], fun i a h => hf a h.2, rfl, fun i v h1 _ => by cases h1⟩
        refine ⟨rfl, Hf1, _, _, Ec, ?_⟩
        rw [eF]
        intro Hf' H' wc S' v Ec' st' rv
        have keep : ∀ i a, w1 i a → H' a = H1 a ∧ Hf' a = Hf1 a ∧ ¬ (O wc a ∨ S' a) := fun i a hw => st'.rest a (E1.there hw) fun ⟨j, z⟩ => dis i a hw z.2
        have E2 : EnR C Hf' H' w1 σ ε1 := ⟨Ec'.sub, fun i => (E1.slot i).keep st'.mono fun a hw => (keep i a hw).1, E1.sep, fun i a hw => by rw [(keep i a hw).2.1]; exact E1.fre i a hw, E1.len, E1.fix⟩
        refine P Hf' H' w1 (fun _ => False) v E2 ⟨st.mono.trans st'.mono, fun a ha na => ?_⟩ ⟨fun _ z => z, rv.2⟩
        obtain ⟨r1, r2, r3⟩ := st.rest a ha na
        obtain ⟨q1, q2, q3⟩ := st'.rest a (by rw [r1]; exact ha) fun ⟨j, z⟩ => r3 (.inr z.2)
        exact ⟨q1.trans r1, q2.trans r2, fun z => z.elim (fun z => r3 (.inl z)) id⟩
      · exact P.elim
    · exact P.elim
end
theorem me_call1N {X : Cx} {C : Ct} {CX : CXT} {k : Nat} {x : Str} {F : M RV} {p pos : Pos} {e : Expr} {te : TE} {m0 : M RV} (K : Cal X.prog X.w X.K X.mg X.base CX k x 1 [] F) (hr : Room k X.A) (hgd : X.A.guards = some []) (hx : PassW CX X C.W) (h : ME X C e te m0) (hg : Gl X x := by rfl)
    (hdb : (x == ("__debug__" : Str)) = false := by decide) (he : starEach (e :: []) X.env = (false, eval e X.env) :: starEach [] X.env := by rfl) (hpl : (backTo pos (starEach [] X.env)).any (·.1) = false := by rfl) :
    ME X C (.Call (.Name x p) [e] [] pos) (tCallG (spM C.K 1 F) [] (WE C.W) (tCons te tNil)) (mCall1N F m0) := by
  obtain ⟨f, fd, ps, ds, h1, h2, h3, h4, h5⟩ := K.ex
  refine ⟨?_, ?_, h.hK⟩
  · have q := pe_callG (pos := pos) (p := p) h5 hr hgd hg h1 h2 h4 h3 hx (pa_cons h.pe pa_nil he) hdb he hpl
    rw [h.hK] at q
    exact q
  · have q := snd_call1N (C := C) (F := F) (E := WE C.W) h.sn
    exact q
end M3

namespace M3
open PySem PySem.Spec L2
open PyProof.Rows hiding St
/-! ### a new list, or what else -/
end M3

namespace M3
open PySem PySem.Spec L2
open PyProof.Rows hiding St
/-! ### lists: insert, reverse, extend -/
section
variable {X : Cx} {C : Ct} {e k : Expr} {ta : TE} {tr : TA} {m : M RV} {ms : M (List D)} {pos : Pos}
theorem ms_extend {x : Str} {px apos cpos : Pos} (i : Nat) (ha : MAs X C [e] (tCons ta tNil) (msCons m msNil)) (h : MO X C e ta m) (hN : X.N[i]? = some x := by rfl) (hv : Vis X.env.scope x := by first | exact Or.inl rfl | exact Or.inr (Or.inl rfl) | exact Or.inr (Or.inr rfl)) (hd : (x == ("__debug__" : Str)) = false := by decide)
    (hcd : (x == ("__classdict__" : Str)) = false := by decide)
    (hfew : ((backTo cpos (starEach (e :: []) X.env)).all (fun x => !x.1) && (backToKw cpos (keywordEach [] X.env)).all (fun x => x.1.isSome)
      && decide ((e :: []).length + ([] : List Keyword).length + (if ([] : List Keyword).isEmpty then 0 else 1) < 30)) = true := by rfl)
    (hline : (apos.endLine == cpos.line) = true := by rfl) (hst : starEach (e :: []) X.env = (false, eval e X.env) :: starEach [] X.env := by rfl) (hplain : (backTo cpos (starEach [] X.env)).any (·.1) = false := by rfl)
    (hs : swapsWith (.Call (.Attribute (.Name x px) "extend" apos) [e] [] cpos) none pos.line X.env = pure false := by rfl) :
    MS X C (.Expr (.Call (.Attribute (.Name x px) "extend" apos) [e] [] cpos) pos) (tDrop (tBM C.K "list" rExtend (tVar i) (tCons ta tNil))) (sExtend i m) := by
  refine ⟨?_, snds_extend h.sn⟩
  have q := pe_bm (apos := apos) (cpos := cpos) PySem.F.plainAttrs_list PySem.F.slot_list_extend PySem.F.type_list_extend mt_extend (pe_var (pos := px) hN hv hd hcd) ha.pa rfl hfew hline hst hplain
  rw [h.hK] at q
  exact ps_expr q hs
end
end M3

namespace M3
open PySem PySem.Spec L2
open PyProof.Rows hiding St
/-! ### own classes of exceptions over any built-in one -/
/-- the object of the class at C: its mro behind itself bm, made by nw -/
def ClsO (K : PySem.W.Frag) (C : Addr) (bm : List Value) (nw : String) : Prop := ∃ (nm q : Str) (N : Addr) (bs : List Value) (sn : List Str) (sub : List Value) (ab : Bool) (col : Option Bool) (dd : Option Addr) (k0 k1 k2 k3 k5 : Option Value),
  K.lookup C = some (excClassObj nm q C N bs bm true sn sub ab col dd k0 k1 k2 k3 k5 nw)
/-- what the written part says of the class: over the built-in class B, whose __init__ is ini -/
structure OexG (K : PySem.W.Frag) (C : Addr) (ini : String) : Prop where
  cls : ∃ (bm bmB : List Value) (B nw : String), ClsO K C bm nw ∧ ExcBaseFacts B nw ini bmB ∧ (∀ X : String, bm.contains (.type X) = bmB.contains (.type X)) ∧ (∀ self : Value, refuseLoop self "__setattr__" bm = pure ()) ∧ bm.contains (.type "object") = true
  sa : PySem.W.findIn K (.ref C) "__setattr__" = some (some (.builtin "object.__setattr__"))
  exC : PySem.W.subIn K (.ref C) (.type "BaseException") = some true
  tyC : PySem.W.typeIn K (.ref C) = some (.type "type")
  kC : PySem.W.keepIn K (.ref C) = true
def clD (nm q : Str) (C N : Addr) (bs bm : List Value) (sn : List Str) (sub : List Value) (ab : Bool) (col : Option Bool) : ClassData :=
  { name := nm, bases := bs, mro := .ref C :: bm, ns := N, qualname := q, hasDict := true, slotNames := sn, subclasses := sub, abstract := ab, collection := col, hasDel := false }
theorem OexG.data {K : PySem.W.Frag} {C : Addr} {ini : String} (T : OexG K C ini) : ∃ cd : ClassData, PySem.W.clsIn K C = some cd ∧ cd.hasDict = true ∧ cd.mro.isEmpty = false ∧ cd.mro.contains (.type "object") = true ∧ ∀ self : Value, refuseLoop self "__setattr__" cd.mro = pure () := by
  obtain ⟨bm, bmB, B, nw, ⟨nm, q, N, bs, sn, sub, ab, col, dd, k0, k1, k2, k3, k5, hC⟩, _, _, hp, ho⟩ := T.cls
  refine ⟨clD nm q C N bs bm sn sub ab col, by unfold PySem.W.clsIn; rw [hC] <;> rfl, rfl, rfl, ?_, fun self => ?_⟩
  · show (Value.ref C :: bm).contains (.type "object") = true
    rw [List.contains_cons, ho, Bool.or_true]
  · show refuseLoop self "__setattr__" (Value.ref C :: bm) = pure ()
    rw [refuseLoop_ref]; exact hp self
section
open Builtin Builtin.ObjectAttr
variable {prog : Program} {w : World} {A : Around} {R : Result → Shared → Prop} {hp : Heap} {g : Array GenState} {d : Drawn} {t : Nat} {os : OsState} {K : PySem.W.Frag} {name : Str} {tk : Tok} {v : Value} {x C dx : Addr} {fv : Array Value} {ini : String}
/-- object.__setattr__ comes to the own dict -/
theorem sa_walk {ox : Obj} {od : Option Obj} (X : K.In hp) (T : OexG K C ini) (I : PySem.W.InstAt hp x ox C od) (ha : PySem.W.findIn K (.ref C) name = some none)
    (go : wpAny (model prog w) A.in1 (storeInOwnDict (.ref x) (.ref C) (.str name tk) name v false)
      (fun fin s' => match fin with | .done f => R (.ok f) s' | .again c' => c'.quiet = true ∧ codeAny (model prog w) A c' R s') (fun e s' => R (.error e) s') ⟨hp, g, d, t, os⟩) :
    codeAny (model prog w) A (.call (.builtin "object.__setattr__") ⟨[.ref x, .str name tk, v], []⟩) R ⟨hp, g, d, t, os⟩ := by
  obtain ⟨cd, hcd, _, hne, hob, hps⟩ := T.data
  have S := F.store_object
  have below : PySem.W.Looks (model prog w) hp (isInstance (.ref x) (.type "object")) true := I.type.andThen (PySem.W.looks_mroIn X (by unfold PySem.W.mroIn; rw [hcd, Option.bind_some, if_neg (by rw [hne]; decide), hob]))
  have look : PySem.W.Looks (model prog w) hp (mroOf (.ref C)) cd.mro := (PySem.W.looks_clsIn X hcd).andThen .now
  have none_ : PySem.W.Looks (model prog w) hp (storeTaker? none) none := .now
  refine codeAny_call_builtin S.slot.plain S.entry (@PySem.W.check_slot (model prog w) _ _ ⟨hp, g, d, t, os⟩ "object.__setattr__" "object" "__setattr__" (.ref x) [.str name tk, v] [] _ S.kind S.split below (S.args (.ref x) (.str name tk) v) ?_)
  rw [PySem.W.osa_eq, refuse_eq]
  refine wpAny_bind (wpAny_bind (I.type.at (wpAny_bind (look.at ?_))))
  rw [hps]
  exact wpAny_pure (wpAny_bind (I.type.at (wpAny_bind ((PySem.W.looks_findIn X ha).at (wpAny_bind (none_.at go))))))
theorem sa_first (X : K.In hp) (T : OexG K C ini) (hx : hp.get? x = some { cls := .ref C, data := .fields fv }) (ha : PySem.W.findIn K (.ref C) name = some none)
    (hq : ∀ h' tk' dx, (∀ b o, b ≠ x → hp.get? b = some o → h'.get? b = some o) → hp.objs.size ≤ dx → dx ≠ x → h'.get? x = some { cls := .ref C, dict := some dx, data := .fields fv } →
      h'.Ns1 dx (fun y => if y = name then some v else none) → R (.ok (.ret .none)) ⟨h', g, d, tk', os⟩) :
    codeAny (model prog w) A (.call (.builtin "object.__setattr__") ⟨[.ref x, .str name tk, v], []⟩) R ⟨hp, g, d, t, os⟩ := by
  have ne : x ≠ hp.objs.size := Nat.ne_of_lt (Heap.lt_size hx)
  refine sa_walk X T (ox := { cls := .ref C, data := .fields fv }) (od := none) ⟨hx, rfl, rfl, trivial⟩ ha ?_
  obtain ⟨cd, hcd, hh, _⟩ := T.data
  have lc : PySem.W.Looks (model prog w) hp (classData C) cd := PySem.W.looks_clsIn X hcd
  obtain ⟨nm, bs, mro, ns, qn, hd, sn, sb, ab, col, del⟩ := cd
  dsimp only at hh
  subst hh
  unfold storeInOwnDict ownDictForStores
  repeat (first | with_reducible refine HandSPX.store_in_new ?_ ?_ | with_reducible refine wpAny_loadPart_at hx ?_ | with_reducible refine lc.at ?_ | wp_step)
  · exact ⟨_, #[], _, (Heap.get?_update_ne _ _ _ _ ne.symm).trans (Heap.get?_push_at rfl rfl), rfl, fun e he => absurd he (by simp), fun _ => rfl⟩
  · intro h' tk' hn' hs
    have hx1 : (hp.push { cls := .type "dict", data := .dict #[] }).get? x = some { cls := .ref C, data := .fields fv } := Heap.get?_push_of_some _ hx
    refine hq h' tk' hp.objs.size (fun b o hb ho => ?_) (Nat.le_refl _) ne.symm ?_ hn'
    · exact (hs.2 b (Nat.ne_of_lt (Heap.lt_size ho))).trans ((Heap.get?_update_ne _ _ _ _ hb).trans (Heap.get?_push_of_some _ ho))
    · exact (hs.2 x ne).trans (Heap.get?_update_self _ hx1 rfl)
theorem sa_next {m0 : Str → Option Value} {nl : List Str} (X : K.In hp) (T : OexG K C ini) (hx : hp.get? x = some { cls := .ref C, dict := some dx, data := .fields fv }) (hns : hp.Ns1 dx m0) (hw : Within m0 nl) (hz : nl.length ≤ 1000) (ha : PySem.W.findIn K (.ref C) name = some none)
    (hq : ∀ h' tk', (∀ b o, b ≠ dx → hp.get? b = some o → h'.get? b = some o) → h'.Ns1 dx (fun y => if y = name then some v else m0 y) → R (.ok (.ret .none)) ⟨h', g, d, tk', os⟩) :
    codeAny (model prog w) A (.call (.builtin "object.__setattr__") ⟨[.ref x, .str name tk, v], []⟩) R ⟨hp, g, d, t, os⟩ := by
  obtain ⟨oD, _, _, hoD, _, _⟩ := hns.count hw
  refine sa_walk X T (ox := { cls := .ref C, dict := some dx, data := .fields fv }) (od := some oD) ⟨hx, rfl, rfl, hoD⟩ ha ?_
  obtain ⟨cd, hcd, hh, _⟩ := T.data
  have lc : PySem.W.Looks (model prog w) hp (classData C) cd := PySem.W.looks_clsIn X hcd
  obtain ⟨nm, bs, mro, ns, qn, hd, sn, sb, ab, col, del⟩ := cd
  dsimp only at hh
  subst hh
  unfold storeInOwnDict ownDictForStores
  repeat (first | with_reducible refine PySem.OEX.store_in_old hns hw hz ?_ | with_reducible refine wpAny_loadPart_at hx ?_ | with_reducible refine lc.at ?_ | wp_step)
  intro h' tk' hn' hs
  exact hq h' tk' (fun b o hb ho => (hs.2 b hb).trans ho) hn'
end
section
variable {X : Cx} {pins : List (Addr × Obj)} {σ : L2.St} {H : Hp} {s : Shared} {a C dx : Addr} {f : Str} {y : V} {u : Value} {fs : List (Str × V)} {Q : Unit → Shared → Prop} {E : Value → Shared → Prop} {A : Around} {ini : String}
/-- self.f = y, the first field -/
theorem stG_first (T : OexG X.K C ini) (I : Inv X pins σ H s) (e : H a = some (exo a C none)) (hno : PySem.W.findIn X.K (.ref C) f = some none) (ry : RelV y u)
    (h : ∀ dx s', H dx = none → dx ≠ a → Inv X pins σ (upd (upd H dx (exd dx [(f, y)])) a (exo a C (some dx))) s' → Q () s') : wpAny (model X.prog X.w) A (setAttr (.ref a) f u) Q E s := by
  obtain ⟨t1, ho⟩ := exo_at I.hok e
  obtain ⟨hp, g, d, t, os⟩ := s
  refine PySem.W.set_plain I.kIn (ox := { cls := .ref C, dict := none, data := .fields #[.ref t1, .none, .none, .none, .bool false, .none] }) (od := none) ⟨ho, rfl, rfl, trivial⟩ T.sa ?_
  refine sa_first I.kIn T ho hno (fun h' tk' dx k dn dne hx hn => ?_)
  have nd0 : H dx = none := I.hok.fresh dn
  have nd : ∀ {b : Addr} {o : Obj}, hp.get? b = some o → b ≠ dx := fun {b o} q => Nat.ne_of_lt (Nat.lt_of_lt_of_le (Heap.lt_size q) dn)
  have na : ∀ {b : Addr}, H b = none → b ≠ a := fun {b} n z => by rw [z, e] at n; cases n
  have U : Un X.fs [] H (upd (upd H dx (exd dx [(f, y)])) a (exo a C (some dx))) hp h' := {
    keep := fun b o q n _ _ => k b o (na n) q
    slot := fun b o q n _ _ => ⟨o.slots, k b o (na n) q⟩
    free := fun b o q n _ => by rw [upd_ne (na n), upd_ne (nd q)]; exact n
    there := fun b o q _ => by
      by_cases hb : b = a
      · exact ⟨_, by rw [hb]; exact hx⟩
      · exact ⟨o, k b o hb q⟩
    tups := fun b xs q => by rw [upd_ne (at_ne e q exo_tup), upd_ne (ne_of_none q nd0)]; exact q
    frzs := fun b o v q => by rw [upd_ne (at_ne e q exo_frz), upd_ne (ne_of_none q nd0)]; exact q
    tbls := fun b ps q => ⟨#[], by rw [upd_ne (at_ne e q exo_tbl), upd_ne (ne_of_none q nd0), q]; simp⟩ }
  refine h dx _ nd0 dne (I.un (t' := tk') U fun b o q => ?_)
  by_cases hb : b = a
  · subst hb
    rw [upd_same] at q
    cases q
    exact exo_ok hx
  · rw [upd_ne hb] at q
    by_cases hd : b = dx
    · subst hd
      rw [upd_same] at q
      cases q
      exact exd_ok hn (relO_put (fs := []) ry fun g => True.intro)
    · rw [upd_ne hd] at q
      refine (I.hok b o q).stay (fun c v hc z => k c v ?_ z) (fun c hc => ?_) (fun c xs hc => ?_)
      · rcases hc with hc | hc
        · rw [hc]; exact hb
        · exact at_ne e hc exo_own
      · rw [upd_ne (at_ne e hc exo_own), upd_ne (ne_of_none hc nd0)]; exact hc
      · rw [upd_ne (at_ne e hc exo_tup), upd_ne (ne_of_none hc nd0)]; exact hc
/-- self.f = y, a further field -/
theorem stG_next (T : OexG X.K C ini) (I : Inv X pins σ H s) (e : H a = some (exo a C (some dx))) (ed : H dx = some (exd dx fs)) (hl : fs.length ≤ 900) (hno : PySem.W.findIn X.K (.ref C) f = some none) (ry : RelV y u)
    (h : ∀ s', Inv X pins σ (upd H dx (exd dx ((f, y) :: fs))) s' → Q () s') : wpAny (model X.prog X.w) A (setAttr (.ref a) f u) Q E s := by
  obtain ⟨t1, ho⟩ := exo_at I.hok e
  obtain ⟨mA, hns, rel⟩ := exd_at I.hok ed
  have hw := within_of rel
  obtain ⟨hp, g, d, t, os⟩ := s
  obtain ⟨oD, _, _, hoD, _, _⟩ := hns.count hw
  refine PySem.W.set_plain I.kIn (ox := { cls := .ref C, dict := some dx, data := .fields #[.ref t1, .none, .none, .none, .bool false, .none] }) (od := some oD) ⟨ho, rfl, rfl, hoD⟩ T.sa ?_
  refine sa_next I.kIn T ho hns hw (by rw [List.length_map]; omega) hno (fun h' tk' k hn => ?_)
  have there : ∃ o, h'.get? dx = some o := let ⟨o, _, _, e', _⟩ := hn; ⟨o, e'⟩
  exact h _ (I.write (t' := tk') (x := dx) (e := dx) (o := exd dx ((f, y) :: fs)) (by rw [ed]; exact True.intro) (.inl rfl) k there (exd_ok hn (relO_put ry rel)))
/-- the base's __init__(self, ..) -/
theorem iniG {us : List Value} {Q : Value → Shared → Prop} (T : OexG X.K C ini) (I : Inv X pins σ H s) (e : H a = some (exo a C none)) (hl : us.length ≤ sizeLine) (h : ∀ s', Inv X pins σ H s' → Q .none s') :
    wpAny (model X.prog X.w) A (call (.builtin ini) (.ref a :: us)) Q E s := by
  obtain ⟨bm, bmB, B, nw, ⟨nm, q, N, bs, sn, sub, ab, col, dd, k0, k1, k2, k3, k5, hC⟩, FB, hT, _, _⟩ := T.cls
  obtain ⟨t1, ho⟩ := exo_at I.hok e
  obtain ⟨hp, g, d, t, os⟩ := s
  refine wpAny_call (PySem.HandSPX.init_base FB hT (I.kIn _ _ hC) ho hl fun h' t2 k hx => ?_)
  have J := I.write (t' := t) (x := a) (e := a) (o := exo a C none) (by rw [e]; exact True.intro) (.inl rfl) k ⟨_, hx⟩ (exo_ok hx)
  have same : upd H a (exo a C none) = H := funext fun b => if hb : b = a then by rw [hb, upd_same, e] else upd_ne hb
  rw [same] at J
  exact h _ J
end
/-! ### readings -/
def tIni (K : PySem.W.Frag) (ini : String) (ta : TA) : TE := fun σ H Q => ta σ H fun vs H1 => ∃ (a C : Addr) (ws : List V), vs = .ref a :: ws ∧ ws.length ≤ 1000 ∧ OexG K C ini ∧ H1 a = some (exo a C none) ∧ Q .non H1
def tOstG (K : PySem.W.Frag) (f : Str) (to te : TE) : TS := fun D σ H => te σ H fun y H1 => to σ H1 fun x H2 => ∃ (a C : Addr) (ini : String), x = .ref a ∧ OexG K C ini ∧ PySem.W.findIn K (.ref C) f = some none ∧
  ((H2 a = some (exo a C none) ∧ ∀ dx, H2 dx = none → dx ≠ a → D.nx σ (upd (upd H2 dx (exd dx [(f, y)])) a (exo a C (some dx)))) ∨
    ∃ (dx : Addr) (fs : List (Str × V)), H2 a = some (exo a C (some dx)) ∧ H2 dx = some (exd dx fs) ∧ fs.length ≤ 900 ∧ D.nx σ (upd H2 dx (exd dx ((f, y) :: fs))))
section
variable {X : Cx} {o e : Expr} {es : List Expr} {to te : TE} {ta : TA} {f : Str} {p p' p1 p2 pos : Pos}
theorem ps_ostG (ho : PE X o to) (he : PE X e te) (hs : swapsWith e (some (.Attribute o f p')) pos.line X.env = pure false := by rfl) : PS X (.Assign [.Attribute o f p'] e pos) (tOstG X.K f to te) := by
  refine ⟨fun pins s σ H D I h => plainObj_wpAny_Assign_Attribute (thn (he.run pins s σ H _ I h) fun v s1 got => ?_) hs⟩
  obtain ⟨y, H1, I1, r1, q1⟩ := got
  refine thn (ho.run pins s1 σ H1 _ I1 q1) fun u s2 got2 => ?_
  obtain ⟨x, H2, I2, r2, a, C, ini, rfl, T, hno, q⟩ := got2
  have eu : u = Value.ref a := r2
  subst eu
  rcases q with ⟨ea, q⟩ | ⟨dx, fs, ea, ed, hl, q⟩
  · exact stG_first T I2 ea hno r1 fun dx s' n ne J => ⟨σ, _, J, q dx n ne⟩
  · exact stG_next T I2 ea ed hl hno r1 fun s' J => ⟨σ, _, J, q⟩
/-- how the base's name is read: a built-in class, or an own one -/
structure BaseI (X : Cx) (x : Str) (ini : String) : Prop where
  run : ∀ {pins : List (Addr × Obj)} {s : Shared} {σ : L2.St} {H : Hp} {pl : Sem Bool} {p1 : Pos} {Q : Value × List Value → Shared → Prop}, Inv X pins σ H s → (∀ s', Inv X pins σ H s' → Q (.builtin ini, []) s') →
    wpAny (model X.prog X.w) X.A (eval (.Name x p1) X.env) (fun ov s₁ => wpAny (model X.prog X.w) X.A (getMethod ov "__init__" pl) Q X.xe s₁) X.xe s
theorem pe_ini {x : Str} {ini : String} {pl : Sem Bool} (B : BaseI X x ini) (ha : PA X (e :: es) ta)
    (hc : eval (.Call (.Attribute (.Name x p1) "__init__" p2) (e :: es) [] pos) X.env = (do
      let ov ← eval (.Name x p1) X.env
      standAt p2.atName
      let (f, first) ← holding [ov] (getMethod ov "__init__" pl)
      callWith pos f first (backTo pos (starEach (e :: es) X.env)) (backToKw pos (keywordEach [] X.env))) := by rfl)
    (he : starEach (e :: es) X.env = (false, eval e X.env) :: starEach es X.env := by rfl) (hpl : (backTo pos (starEach es X.env)).any (·.1) = false := by rfl) :
    PE X (.Call (.Attribute (.Name x p1) "__init__" p2) (e :: es) [] pos) (tIni X.K ini ta) := by
  refine ⟨fun pins s σ H Q I h => ?_⟩
  refine PySem.W.methodCall_KW (B.run I fun s' J => ?_) hc
  show wpAny _ _ (callWith pos (Value.builtin ini) [] (backTo pos (starEach (e :: es) X.env)) []) _ _ _
  refine PyProof.Rows.callWith_method1 (thn (ha.run pos pins _ σ H _ J h) fun us t1 ht => ?_) he hpl
  obtain ⟨vs, G, J1, rv, a, Co, rest, rfl, hl, O, ea, q⟩ := ht
  cases rv with
  | @cons _ u _ ur ra rr =>
    have eu : u = Value.ref a := ra
    subst eu
    have lr : rest.length = ur.length := Paired.length rr
    exact iniG O J1 ea (by rw [sizeLine_eq]; omega) fun s' J2 => ⟨.non, G, J2, rfl, q⟩
theorem base_blt {x : Str} {B ini : String} (hg : Gl X x) (hm : X.mg x = none) (hb : bootBuiltins x = some (.type B)) (hv : PySem.W.findCls X.K (.type B) (.type "type") "__init__" = some (.val (.builtin ini))) (ht : typeOf (.type B) = pure (.type "type")) (hst : Manifest.isStub B = false := by decide +kernel)
    (hh : PySem.W.handedIn (.builtin ini) = true := by decide +kernel) (hn : x ≠ "__name__" := by decide) (hdb : (x == ("__debug__" : Str)) = false := by decide) : BaseI X x ini :=
  ⟨fun I h => ld_blt I hg hm hb (let ⟨_, fr⟩ := I.fr; PySem.W.method_type fr I.ok.mod.kin ht hst hv hh (h _ (I.tok _))) hn hdb⟩
end
/-! ### an exception with fields is made and raised -/
/-- what an own __init__ keeps that sets the fields fs -/
def spIn (K : PySem.W.Frag) (ini : String) (fs : List Str) : Sp := fun vs H Q _ => ∃ (a C : Addr) (ys : List V), vs = .ref a :: ys ∧ ys.length = fs.length ∧ OexG K C ini ∧ (∀ f ∈ fs, PySem.W.findIn K (.ref C) f = some none) ∧ H a = some (exo a C none) ∧
  ∀ dx H2, H dx = none → dx ≠ a → H2 a = some (exo a C (some dx)) → H2 dx = some (exd dx (fs.zip ys).reverse) → (∀ b, b ≠ a → b ≠ dx → H2 b = H b) → Q .non H2
def tMkG (C : Addr) (fs : List Str) (ta : TA) : L2.St → Hp → XK → Prop := fun σ H Q => ta σ H fun vs H1 => vs.length = fs.length ∧ fs.length ≤ 900 ∧ ∀ dx, H1 dx = none → Q (.ref C) (some dx) (upd H1 dx (.xd (fs.zip vs).reverse))
theorem pmk_G {X : Cx} {CX : CXT} {x : Str} {C fI : Addr} {k : Nat} {fd : FuncData} {ps fs : List Str} {ini : String} {e : Expr} {es : List Expr} {ta : TA} {p pos : Pos} (T : OexG X.K C ini) (hno : ∀ f ∈ fs, PySem.W.findIn X.K (.ref C) f = some none) (iC : PySem.W.findIn X.K (.ref C) "__init__" = some (some (.ref fI))) (tI : PySem.W.typeIn X.K (.ref fI) = some (.type "function"))
    (F1 : FnOk X.prog X.w X.K X.mg X.base CX k fI fd ps (spIn X.K ini fs)) (hr : Room (k + 1) X.A) (hb : Binds X.K fd ps []) (hx : Passes CX X (fun _ _ _ => False)) (hg : Gl X x) (hm : X.mg x = some (.ref C)) (ha : PA X (e :: es) ta)
    (hdb : (x == ("__debug__" : Str)) = false := by decide) (he : starEach (e :: es) X.env = (false, eval e X.env) :: starEach es X.env := by rfl) (hpl : (backTo pos (starEach es X.env)).any (·.1) = false := by rfl) :
    PMk X (.Call (.Name x p) (e :: es) [] pos) (tMkG C fs ta) := by
  intro pins s σ H Q I h
  obtain ⟨bm, bmB, B, nw, ⟨nm, q, N, bs, sn, sub, ab, col, dd, k0, k1, k2, k3, k5, hC⟩, FB, hT, _, _⟩ := T.cls
  refine wpAny_Call_Name_kw (ld_glob I hg hm ?_ hdb)
  refine PySem.W.callWith_K (h₀ := X.base) I.ok.mod.kin T.kC (thn (ha.run pos pins s σ H _ I h) fun us s1 got => ?_) he hpl
  obtain ⟨vs, H1, I1, r1, hl, h9, q1⟩ := got
  refine ⟨I1.kIn, ?_⟩
  show wpAny _ _ (call (.ref C) us) _ _ _
  obtain ⟨hp, g, dr, tk, os⟩ := s1
  have up : hp.objs.size ≤ hp.objs.size + 1 := Nat.le_succ _
  have hn : H1 (hp.objs.size + 1) = none := I1.hok.fresh up
  have kk : ∀ b o, hp.get? b = some o → ((hp.push (PySem.W.kdv_tup us)).push (PySem.HandSPX.excO C hp.objs.size)).get? b = some o := fun b o e => Heap.get?_push_of_some _ (Heap.get?_push_of_some _ e)
  have hget : ((hp.push (PySem.W.kdv_tup us)).push (PySem.HandSPX.excO C hp.objs.size)).get? (hp.objs.size + 1) = some (PySem.HandSPX.excO C hp.objs.size) := by heap_get
  have I2 : Inv X pins σ (upd H1 (hp.objs.size + 1) (exo (hp.objs.size + 1) C none)) ⟨(hp.push (PySem.W.kdv_tup us)).push (PySem.HandSPX.excO C hp.objs.size), g, dr, tk, os⟩ :=
    I1.laid (t' := tk) (a := hp.objs.size + 1) (o := exo (hp.objs.size + 1) C none) (h' := (hp.push (PySem.W.kdv_tup us)).push (PySem.HandSPX.excO C hp.objs.size)) kk up (exo_ok hget)
  have lu : us.length = vs.length := (Paired.length r1).symm
  have says : spIn X.K ini fs (V.ref (hp.objs.size + 1) :: vs) (upd H1 (hp.objs.size + 1) (exo (hp.objs.size + 1) C none)) (fun v H2 => v = .non ∧ ∃ d : Addr, H2 (hp.objs.size + 1) = some (exo (hp.objs.size + 1) C (some d)) ∧ H2 d = some (exd d (fs.zip vs).reverse) ∧ H1 d = none ∧ (∀ b, b ≠ hp.objs.size + 1 → b ≠ d → H2 b = H1 b)) (fun _ _ _ => False) :=
    ⟨_, C, vs, rfl, hl, T, hno, upd_same, fun dx H2 hd hne e1 e2 e3 => ⟨rfl, dx, e1, e2, by rw [upd_ne hne] at hd; exact hd, fun b b1 b2 => by rw [e3 b b1 b2, upd_ne b1]⟩⟩
  have r2 : Vals (V.ref (hp.objs.size + 1) :: vs) (Value.ref (hp.objs.size + 1) :: us) := .cons rfl r1
  have hlp : (Value.ref (hp.objs.size + 1) :: us).length = ps.length := by
    have z := F1.len _ _ _ _ says
    rw [← z, List.length_cons, List.length_cons, lu]
  have hus : us.length ≤ sizeLine := by rw [sizeLine_eq]; omega
  have bnd := hb _ (Value.ref (hp.objs.size + 1) :: us) I2.kIn (by rw [List.append_nil]; exact hlp)
  rw [List.append_nil] at bnd
  refine wpAny_call (PySem.HandSPX.call_own FB hT (I1.kIn _ _ hC) (PySem.W.looks_findIn I1.kIn iC) (fun self => PySem.W.bind_fn I1.kIn self tI) hus
    (codeAny_mono (F1.run _ X.stack _ _ ⟨Value.ref (hp.objs.size + 1) :: us, []⟩ (Value.ref (hp.objs.size + 1) :: us) _ _ (fun _ _ _ => False) (hr.make C us []) (I2.env0.make C us []) bnd r2 says) fun r s' got => ?_))
  cases r with
  | error er => exact hx pins σ _ _ er s' I2 got
  | ok fl =>
    cases fl with
    | ret u =>
      obtain ⟨v, H2, os2, bare2, un2, hok2, rv, rfl, dx, ea, ed, hd1, rest⟩ := got
      obtain ⟨h2, g2, d2, t2, os'⟩ := s'
      have eH : upd (del H2 (hp.objs.size + 1)) dx (.xd (fs.zip vs).reverse) = upd H1 dx (.xd (fs.zip vs).reverse) := funext fun b => by
        by_cases hb : b = dx
        · rw [hb, upd_same, upd_same]
        · rw [upd_ne hb, upd_ne hb]
          by_cases hb2 : b = hp.objs.size + 1
          · rw [hb2, del_same, hn]
          · rw [del_ne hb2, rest b hb2 hb]
      exact ⟨rv, mk_end (raises_own T.exC T.tyC) I1 up kk un2 hok2 os2 bare2 ea ed hd1 (by rw [eH]; exact q1 dx hd1)⟩
    | next => exact False.elim got
    | brk => exact False.elim got
    | cont => exact False.elim got
def sRaise (cls : Str) (fs : List Str) (dm : M (List D)) : Sm := fun ε => (dm ε).toS fun ds ε1 => if ds.length = fs.length ∧ fs.length ≤ 900 then .err ⟨cls, (fs.zip ds).reverse⟩ ε1 else .bad
theorem paired_zip {K : PySem.W.Frag} {H H' : Hp} (s : Same H H') : ∀ {fs : List Str} {vs : List V} {ds : List D}, DqAll K H vs ds → Paired (fun (p : Str × V) (q : Str × D) => p.1 = q.1 ∧ Dq K H' p.2 q.2) (fs.zip vs) (fs.zip ds)
  | [], _, _, _ => by simpa using Paired.nil
  | f :: fs, _, _, .nil => by simpa using Paired.nil
  | f :: fs, _, _, .cons a b => .cons ⟨rfl, a.mono s⟩ (paired_zip s b)
theorem paired_rev {α β : Type} {R : α → β → Prop} : ∀ {l : List α} {m : List β}, Paired R l m → Paired R l.reverse m.reverse
  | _, _, .nil => .nil
  | _, _, .cons a b => by
    rw [List.reverse_cons, List.reverse_cons]
    have app : ∀ {l1 l2 : List α} {m1 m2 : List β}, Paired R l1 m1 → Paired R l2 m2 → Paired R (l1 ++ l2) (m1 ++ m2) := by
      intro l1 l2 m1 m2 h1 h2
      induction h1 with
      | nil => exact h2
      | cons x _ ih => exact .cons x ih
    exact app (paired_rev b) (.cons a .nil)
theorem snds_raise {C : Ct} {Cc : Addr} {cls : Str} {fs : List Str} {dm : M (List D)} {ta : TA} (hc : PySem.W.nsIn C.K mainGlobals cls = some (some (.ref Cc))) (h : Snd C relDs ta dm) :
    SndS C (fun _ σ H => tMkG Cc fs ta σ H fun cls d H' => C.W cls d σ H') (sRaise cls fs dm) := by
  intro Hf H w σ ε D E P
  unfold sRaise at P
  refine h.toS E P fun ds ε1 Hf1 H1 w1 S vs _ E1 st rb P1 => ?_
  split at P1
  · rename_i hl
    have lv : vs.length = ds.length := rb.2.length
    refine ⟨by omega, hl.2, fun dx hd1 => ?_⟩
    exact P1 _ _ w1 σ (.ref Cc) (some dx) (E1.lay hd1) (st.noS.trans (Stp.lay E1.sub hd1)) ⟨Cc, rfl, hc, .inr ⟨dx, _, rfl, upd_same, paired_rev (paired_zip (same_upd (same_none E1.sub hd1)) rb.2)⟩⟩
  · exact P1.elim
/-! ### own __init__s -/
section
variable {K : PySem.W.Frag} {σ : L2.St} {H : Hp} {m f g k : Str} {a C : Addr} {x y z : V} {D : Ends} {ini : String}
abbrev tBase (K : PySem.W.Frag) (ini : String) (m : Str) : TS := tDrop (tIni K ini (tCons (tVar 0) (tCons (tC (.str m)) tNil)))
theorem base_go (h0 : σ[0]? = some (some (V.ref a))) (T : OexG K C ini) (e : H a = some (exo a C none)) (h : D.nx σ H) : tBase K ini m D σ H :=
  ⟨V.ref a, h0, a, C, [.str m], rfl, by simp, T, e, h⟩
end
section
variable {K : PySem.W.Frag} {H : Hp} {m f g k : Str} {N : List Str} {vs : List V} {Q : VK} {E : XK} {ini : String}
theorem in2_go (h : spIn K ini [f, g] vs H Q E) : tSeq (tBase K ini m) (tSeq (tOstG K f (tVar 0) (tVar 1)) (tOstG K g (tVar 0) (tVar 2))) { nx := fun _ H' => Q .non H', rt := Q } (L2.start N vs) H := by
  obtain ⟨a, C, ys, rfl, hl, T, hf, e, hq⟩ := h
  match ys, hl with
  | [y, z], _ =>
    have h0 : (L2.start N [V.ref a, y, z])[0]? = some (some (V.ref a)) := start_get (by simp)
    have h1 : (L2.start N [V.ref a, y, z])[1]? = some (some y) := start_get (by simp)
    have h2 : (L2.start N [V.ref a, y, z])[2]? = some (some z) := start_get (by simp)
    refine base_go h0 T e ⟨y, h1, _, h0, a, C, ini, rfl, T, hf f (by simp), .inl ⟨e, fun dx hd hne => ?_⟩⟩
    refine ⟨z, h2, _, h0, a, C, ini, rfl, T, hf g (by simp), .inr ⟨dx, [(f, y)], upd_same, by rw [upd_ne hne, upd_same], by simp, ?_⟩⟩
    exact hq dx _ hd hne (by rw [upd_ne (Ne.symm hne), upd_same]) (by rw [upd_same]; rfl) (fun b hb hx => by rw [upd_ne hx, upd_ne hb, upd_ne hx])
end
/-- a method's def, inside a class -/
def defIn (s : Stmt) (i : Nat) : Stmt := match s with
  | .ClassDef _ _ _ body _ _ _ _ _ _ _ => body.getD i (.Pass ⟨0, 0, 0, 0⟩)
  | s => s
/-- an own class of exceptions with the fields fs, to be raised -/
structure Rse (P : Program) (w : World) (K : PySem.W.Frag) (mg : Str → Option Value) (base : Heap) (CX : CXT) (x : Str) (fs : List Str) : Prop where
  ex : ∃ (C fI : Addr) (fd : FuncData) (ps : List Str) (ini : String), mg x = some (.ref C) ∧ PySem.W.nsIn K mainGlobals x = some (some (.ref C)) ∧ OexG K C ini ∧ (∀ f ∈ fs, PySem.W.findIn K (.ref C) f = some none) ∧ PySem.W.findIn K (.ref C) "__init__" = some (some (.ref fI)) ∧
    PySem.W.typeIn K (.ref fI) = some (.type "function") ∧ FnOk P w K mg base CX 1 fI fd ps (spIn K ini fs) ∧ Binds K fd ps []
def tRz (K : PySem.W.Frag) (W : WX) (x : Str) (fs : List Str) (ta : TA) : TS := fun _ σ H => ∃ Cc : Addr, PySem.W.nsIn K mainGlobals x = some (some (.ref Cc)) ∧ tMkG Cc fs ta σ H fun cls d H' => W cls d σ H'
theorem ms_raise {X : Cx} {C : Ct} {x : Str} {fs : List Str} {e : Expr} {es : List Expr} {ta : TA} {dm : M (List D)} {p p2 pos : Pos} (R : Rse X.prog X.w X.K X.mg X.base (L2.CX X.prog X.w) x fs) (hr : Room 2 X.A) (tk : Takes X C.W) (ha : MDs X C (e :: es) ta dm) (hcalm : X.calm = true := by rfl) (hg : Gl X x := by rfl)
    (hdb : (x == ("__debug__" : Str)) = false := by decide) (he : starEach (e :: es) X.env = (false, eval e X.env) :: starEach es X.env := by rfl) (hpl : (backTo p2 (starEach es X.env)).any (·.1) = false := by rfl) :
    MS X C (.Raise (some (.Call (.Name x p) (e :: es) [] p2)) none pos) (tRz C.K C.W x fs ta) (sRaise x fs dm) := by
  obtain ⟨Cc, fI, fd, ps, ini, h1, h2, h3, h4, h5, h6, h7, h8⟩ := R.ex
  have hK := ha.hK
  refine ⟨⟨fun pins s σ H D I h => ?_⟩, ?_⟩
  · obtain ⟨C2, e2, h⟩ := h
    rw [← hK, h2] at e2
    injection e2 with e3
    injection e3 with e4
    injection e4 with e5
    subst e5
    have q := ps_raise (pos := pos) hcalm tk (pmk_G (p := p) h3 h4 h5 h6 h7 hr h8 (fun pins σ H s e s' I c => by
      obtain ⟨_, _, _, _, _, _, _, _, _, _, _, _, z⟩ := c
      exact z.elim) hg h1 ha.pa hdb he hpl)
    exact q.run pins s σ H D I h
  · have q := snds_raise (C := C) (cls := x) (fs := fs) (by rw [← hK]; exact h2) ha.sn
    exact fun Hf H w σ ε D E P => ⟨Cc, by rw [← hK]; exact h2, q Hf H w σ ε D E P⟩
end M3

namespace M3
open PySem PySem.Spec L2
open PyProof.Rows hiding St
/-! ### try: .. except X as n: k = n: the exception is kept behind the suite -/
section
variable {X : Cx} {pins : List (Addr × Obj)} {σ : L2.St} {H : Hp} {s : Shared}
end
section
variable {X : Cx} {x n : Str} {cv : Value} {i : Nat} {body suite : List Stmt} {b₀ : Stmt} {np pos pos' : Pos} {tb : WX → TS} {ts : TS} {Wout : WX}
end
end M3

namespace M3
open PySem PySem.Spec L2
open PyProof.Rows hiding St
/-! ### the kept exception: the mirror of such a try -/
section
variable {C : Ct} {Hf H : Hp} {w : Own} {σ : L2.St} {ε : En}
end
/-! ### what is asked of it -/
section
variable {X : Cx} {C : Ct} {Hf H : Hp} {w : Own} {σ : L2.St} {ε : En}
end
/-- what the written part says of a class of exceptions, so that its instances answer rightly -/
structure Xcl (K : PySem.W.Frag) (C : Addr) : Prop where
  ga : PySem.W.findIn K (.ref C) "__getattribute__" = some (some (.builtin "BaseException.__getattribute__"))
  gg : PySem.W.findIn K (.ref C) "__getattr__" = some none
  exC : PySem.W.subIn K (.ref C) (.type "BaseException") = some true
  hdC : PySem.W.hasDictIn K C = true
  cl : (PySem.W.clsIn K C).isSome = true
  ca : PySem.W.findIn K (.ref C) "__class__" = some (some (.builtin "object.__class__"))
  mo : PySem.W.mroIn K C (.type "object") = some true
  gn : PySem.W.specialIn K (.builtin "object.__class__") "__get__" = some (some (.builtin "getset_descriptor.__get__"))
  tk : PySem.W.takesIn K (.builtin "object.__class__") = some true
end M3

namespace M3
open PySem PySem.Spec L2
open PyProof.Rows hiding St
/-! ### isinstance of a kept exception -/
structure ExAt (K : PySem.W.Frag) (H : Hp) (a C : Addr) (d : Option Addr) : Prop where
  at_ : H a = some (exh a (.ref C) d)
  cl : Xcl K C
  dd : d = none ∨ ∃ (p : Addr) (fs : List (Str × V)), d = some p ∧ H p = some (.xd fs)
theorem ExAt.lay {K : PySem.W.Frag} {H : Hp} {a C p : Addr} {d : Option Addr} {o : HO} (h : ExAt K H a C d) (hp : H p = none) : ExAt K (upd H p o) a C d := by
  have ne : ∀ {b : Addr} {u : HO}, H b = some u → b ≠ p := fun q z => by rw [z, hp] at q; cases q
  refine ⟨by rw [upd_ne (ne h.at_)]; exact h.at_, h.cl, h.dd.imp id ?_⟩
  rintro ⟨q, fs, e, z⟩
  exact ⟨q, fs, e, by rw [upd_ne (ne z)]; exact z⟩
section
variable {X : Cx}
end
section
variable {X : Cx} {C : Ct}
end
end M3

namespace M3
open PySem PySem.Spec L2
open PyProof.Rows hiding St
/-! ### defs that exceptions may leave -/
theorem tk_cx {P : Program} {w : World} {K : PySem.W.Frag} {mg : Str → Option Value} {base : Heap} {N : List Str} {x : Str} {sc : Scope} {f : Addr} {cdv : Value} {A : Around} {outer : List Env} {s : Shared} {H : Hp} {E : XK} :
    Takes (cxOf (L2.CX P w) P w K mg base N x sc f cdv A outer s H E) (fun c d _ H' => E c d H') := takes_of rfl rfl rfl rfl
theorem passN {P : Program} {w : World} {X : Cx} : PassW (L2.CX P w) X noW := fun σ pins H s e s' I c => by
  obtain ⟨_, _, _, _, _, _, _, _, _, _, _, _, z⟩ := c
  exact z.elim
theorem passX {X : Cx} {W : WX} (tk : Takes X W) : PassW (L2.CX X.prog X.w) X W := fun σ => passAt tk σ
/-- the head, where own exceptions fly -/
theorem walk_ofKX {l : PySem.W.OpenLaw} {n k : Nat} {q : Program} {loose : List Str} {XP : (Str → Option Value) → Heap → Prop} {YP : World → Heap → Prop} {d : DefRec} {K : Params → PySem.W.Frag} {sp : PySem.W.Frag → Sp} {x : Str}
    (hn : l.most = some n) (hn2 : n ≤ sizeLine) (hdf : d.params.defaults = []) (hr : Room k callerA) (hY : ∀ (w : World) (h : Heap), YP w h → (K w.params).In h)
    (F : ∀ (w : World) (mg : Str → Option Value) (fa : Addr) (h : Heap), (K w.params).In h → h.Ns mainGlobals mg → mg d.name = some (.ref fa) →
      ∃ fd : FuncData, (∀ (s : Shared) (u : Value), BindsTo s fd ⟨[u], []⟩ [(x, u)]) ∧ ∀ base : Heap, (K w.params).In base → base.Ns mainGlobals mg → FnG l.prog w (K w.params) mg base (L2.CX l.prog w) k fa fd [x] (sp (K w.params)))
    (hsp : ∀ (K : PySem.W.Frag) (H : Hp) (a : Addr) (ns : List Int), ns.length ≤ n → L2.Only H → SqL K H a (ns.map V.int) → sp K [.ref a] H (fun v _ => v = .bl true) fun _ _ _ => False) :
    PySem.W.WalkO q loose XP YP l.row.toRowW d [] (fun f vs => PySem.call f vs) :=
  walk_ofG (K := K) (CX := fun w => L2.CX l.prog w) (sp := fun w => sp (K w.params)) hn hn2 hdf hr hY F (fun w => hsp (K w.params)) fun w H s e s' c => by
    obtain ⟨_, _, _, _, _, _, _, _, _, _, _, _, z⟩ := c
    exact z
/-! ### classes -/
abbrev tlLE : List Value := [.type "LookupError", .type "Exception", .type "BaseException", .type "object"]
theorem pass_LE (self : Value) : refuseLoop self "__setattr__" tlLE = pure () := by kernel_rfl
section
variable {K : PySem.W.Frag} {C T : Addr}
theorem oexG_LE (h : ClsO K C tlLE "LookupError.__new__") (sa : PySem.W.findIn K (.ref C) "__setattr__" = some (some (.builtin "object.__setattr__"))) (exC : PySem.W.subIn K (.ref C) (.type "BaseException") = some true) (tyC : PySem.W.typeIn K (.ref C) = some (.type "type")) (kC : PySem.W.keepIn K (.ref C) = true) : OexG K C "LookupError.__init__" :=
  ⟨⟨tlLE, tlLE, "LookupError", "LookupError.__new__", h, F.excBase_LookupError, fun _ => rfl, pass_LE, by decide +kernel⟩, sa, exC, tyC, kC⟩
end
theorem ty_LE : typeOf (.type "LookupError") = pure (.type "type") := by kernel_rfl
theorem boot_LE : bootBuiltins "LookupError" = some (.type "LookupError") := by decide +kernel
theorem ini_LE {K : PySem.W.Frag} : PySem.W.findCls K (.type "LookupError") (.type "type") "__init__" = some (.val (.builtin "LookupError.__init__")) := by kernel_rfl
theorem base_LE {X : Cx} (hm : X.mg "LookupError" = none) (hg : Gl X "LookupError" := by rfl) : BaseI X "LookupError" "LookupError.__init__" := base_blt hg hm boot_LE ini_LE ty_LE
end M3

namespace M3
open PySem PySem.Spec L2
open PyProof.Rows hiding St
/-! ### f(..) that looks alone and answers a truth: what the caller owns is lent -/
def mCallV (n : Nat) (F : M RV) (ms : M (List RV)) : M RV := fun ε => (ms ε).bind fun rs ε1 => match viewAll ε1 rs with
  | some ds => if ds.length = n then (match F (ds.map fun d => some (.fro d)) with
    | .ok (.fro (.bool b)) _ => .ok (.fro (.bool b)) ε1
    | _ => .bad) else .bad
  | none => .bad
theorem VwAll.dq {C : Ct} {Hf H : Hp} (s : Same Hf H) : ∀ {vs : List V} {ds : List D}, VwAll C Hf H vs ds → DqAll C.K H vs ds
  | _, _, .nil => .nil
  | _, _, .cons a b => .cons (a.dq s) (VwAll.dq s b)
theorem dqAll_at {K : PySem.W.Frag} {H : Hp} : ∀ {vs : List V} {ds : List D}, DqAll K H vs ds → ∀ i : Nat, SlotR K H H (fun _ => False) (vs.map some)[i]? (ds.map fun d => some (SV.fro d))[i]?
  | _, _, .nil, i => fun _ z => z
  | _, _, .cons a b, 0 => ⟨fun _ z => z, _, rfl, a⟩
  | _, _, .cons a b, i + 1 => dqAll_at b i
theorem dqAll_len {K : PySem.W.Frag} {H : Hp} : ∀ {vs : List V} {ds : List D}, DqAll K H vs ds → vs.length = ds.length
  | _, _, .nil => rfl
  | _, _, .cons a b => by rw [List.length_cons, List.length_cons, dqAll_len b]
section
variable {C : Ct} {tr : TA} {ms : M (List RV)} {n : Nat} {F : M RV}
theorem snd_callV {E : L2.St → XK} (h : Snd C relOs tr ms) : Snd C relRV (fun σ H Q => tr σ H fun vs H1 => spM C.K n F vs H1 Q (E σ)) (mCallV n F ms) :=
  Snd.bind h fun Hf H w σ ε S vs rs Q En0 rb P => by
    split at P
    · rename_i ds ev
      split at P
      · rename_i hn
        split at P
        · rename_i b εo eF
          have dq := VwAll.dq En0.sub (opRs.view En0 rb.2 ev)
          have Ec : EnR ⟨C.K, [], [], noW⟩ H H (fun _ _ => False) (vs.map some) (ds.map fun d => some (SV.fro d)) :=
            ⟨Same.refl _, dqAll_at dq, fun _ _ _ z => z.elim, fun _ _ z => z.elim, by rw [List.length_map, List.length_map, dqAll_len dq], fun i v h1 _ => by cases h1⟩
          refine ⟨(dqAll_len dq).trans hn, H, _, _, Ec, ?_⟩
          rw [eF]
          intro Hf' H' wc S' v Ec' st' rv
          have kp : ∀ a, H a ≠ none → H' a = H a := fun a ha => (st'.rest a ha fun ⟨_, z⟩ => z).1
          have sub : Same Hf H' := fun a o e => by
            have q := En0.sub a o e
            rw [kp a (by rw [q]; simp), q]
          have E2 : EnR C Hf H' w σ ε := ⟨sub, fun i => (En0.slot i).keep (Same.refl _) fun a hw => kp a (En0.there hw), En0.sep, En0.fre, En0.len, En0.fix⟩
          have ev2 : v = .bl b := by
            have q := rv.2
            cases q
            rfl
          subst ev2
          exact P Hf H' w (fun _ => False) (.bl b) E2 ⟨Same.refl _, fun a ha na => ⟨kp a ha, rfl, fun z => z.elim na id⟩⟩ ⟨fun _ z => z, .bl b⟩
        · exact P.elim
      · exact P.elim
    · exact P.elim
end
theorem me_callV {X : Cx} {C : Ct} {e : Expr} {es : List Expr} {tr : TA} {ms : M (List RV)} {pos : Pos} {CX : CXT} {k : Nat} {x : Str} {n : Nat} {F : M RV} {p : Pos} (K : Cal X.prog X.w X.K X.mg X.base CX k x n [] F) (hr : Room k X.A) (hgd : X.A.guards = some []) (hx : PassW CX X C.W) (ha : MAs X C (e :: es) tr ms) (hg : Gl X x := by rfl)
    (hdb : (x == ("__debug__" : Str)) = false := by decide) (he : starEach (e :: es) X.env = (false, eval e X.env) :: starEach es X.env := by rfl) (hpl : (backTo pos (starEach es X.env)).any (·.1) = false := by rfl) :
    ME X C (.Call (.Name x p) (e :: es) [] pos) (tCallG (spM C.K n F) [] (WE C.W) tr) (mCallV n F ms) := by
  obtain ⟨f, fd, ps, ds, h1, h2, h3, h4, h5⟩ := K.ex
  refine ⟨?_, ?_, ha.hK⟩
  · have q := pe_callG (pos := pos) (p := p) h5 hr hgd hg h1 h2 h4 h3 hx ha.pa hdb he hpl
    rw [ha.hK] at q
    exact q
  · have q := snd_callV (n := n) (F := F) (C := C) (E := WE C.W) ha.sn
    have e : (fun (σ : L2.St) (H : Hp) (Q : VK) => tr σ H fun vs H1 => spM C.K n F vs H1 Q (WE C.W σ)) = tCallG (spM C.K n F) [] (WE C.W) tr := by
      funext σ H Q; unfold tCallG; simp only [List.append_nil]
    rw [e] at q
    exact q
@[simp] theorem x_callV {n : Nat} {F : M RV} {ms : M (List RV)} {ε : En} : mCallV n F ms ε = (ms ε).bind fun rs ε1 => match viewAll ε1 rs with
  | some ds => if ds.length = n then (match F (ds.map fun d => some (.fro d)) with
    | .ok (.fro (.bool b)) _ => .ok (.fro (.bool b)) ε1
    | _ => .bad) else .bad
  | none => .bad := rfl
/-! ### a text so many times -/
def MulT (x : Str) (n : Int) : Prop := 0 < n ∧ n ≤ 1000 ∧ x.length ≤ 1000
instance (x : Str) (n : Int) : Decidable (MulT x n) := inferInstanceAs (Decidable (_ ∧ _ ∧ _))
end M3

namespace M3
open PySem PySem.Spec L2
open PyProof.Rows hiding St
/-! ### methods of lists that answer a value -/
def mBML (g : D → List D → Option Out) (m : M RV) (ms : M (List RV)) : M RV := fun ε => (m ε).bind fun r ε1 => match view ε1 r with
  | some (.list _) => (ms ε1).bind fun rs ε2 => (match view ε2 r, viewAll ε2 rs with
    | some (.list ds), some es => outR (g (.list ds) es) ε2
    | _, _ => .bad)
  | _ => .bad
section
variable {C : Ct} {to : TE} {m : M RV} {tr : TA} {ms : M (List RV)}
theorem snd_bml {r : V → List V → Hp → VK → Prop} {g : D → List D → Option Out} (hr : MtS C r g) (h : Snd C relO to m) (hs : Snd C relOs tr ms) : Snd C relRV (tBM C.K "list" r to tr) (mBML g m ms) := by
  intro Hf H w σ ε Q E P
  refine h Hf H w σ ε _ E ?_
  unfold mBML at P
  cases e : m ε with
  | err x ε1 => rw [e] at P; exact P
  | bad => rw [e] at P; exact P
  | ok r1 ε1 =>
    rw [e] at P
    intro Hf1 H1 w1 S b E1 st rb
    have st0 := st.out (o'' := O w1) fun x z => .inl z
    have P1 := P.step st0
    simp only [R.bind] at P1
    split at P1
    · rename_i ds0 v0
      obtain ⟨p, vs, rfl, q1, _⟩ := rb.2.view E1 v0
      refine ⟨.inl ⟨rfl, vs, .of q1⟩, hs Hf1 H1 w1 σ ε1 _ E1 ?_⟩
      cases e2 : ms ε1 with
      | err x ε2 => rw [e2] at P1; exact P1
      | bad => rw [e2] at P1; exact P1
      | ok rs ε2 =>
        rw [e2] at P1
        intro Hf2 H2 w2 S2 b2 E2 st2 rb2
        have P2 := P1.step (st2.out (o'' := O w2) fun x z => .inl z)
        simp only at P2
        split at P2
        · rename_i ds es v1 v2
          exact hr Hf2 H2 _ b2 (.list ds) es Q E2.sub ((opR.mono st2.mono rb.2).view E2 v1) (rb2.2.view E2 v2) (OutP.of E2 P2)
        · exact P2.elim
    · exact P1.elim
end
def ixK (k : Key) : List Key → Option Nat
  | [] => none
  | j :: ks => if j = k then some 0 else (ixK k ks).map (· + 1)
def gIndex : D → List D → Option Out
  | .list ds, [d] => (match keysD ds, keysD [d] with
    | some ks, some [k] => (ixK k ks).map fun j => .val (.int (j : Int))
    | _, _ => none)
  | _, _ => none
theorem flat_k (k : Key) : flatV (kV k) = true := by cases k <;> rfl
theorem eqV_k (a b : Key) : eqV (kV a) (kV b) = decide (a = b) := by
  cases a <;> cases b <;> simp [kV, eqV] <;> rfl
theorem ixK_some {k : Key} : ∀ {ks : List Key} {j : Nat}, ixK k ks = some j → ks[j]? = some k ∧ ∀ (m : Nat) (z : Key), m < j → ks[m]? = some z → z ≠ k
  | [], j, e => by cases e
  | i :: ks, j, e => by
    unfold ixK at e
    by_cases q : i = k
    · rw [if_pos q] at e
      cases e
      exact ⟨by rw [q]; rfl, fun m z h => absurd h (Nat.not_lt_zero m)⟩
    · rw [if_neg q] at e
      cases r : ixK k ks with
      | none => rw [r] at e; cases e
      | some l =>
        rw [r] at e
        cases e
        obtain ⟨h1, h2⟩ := ixK_some r
        exact ⟨h1, fun m z hm hz => by
          cases m with
          | zero => cases hz; exact q
          | succ m => exact h2 m z (Nat.lt_of_succ_lt_succ hm) hz⟩
theorem mts_index {C : Ct} : MtS C (rIndex C.K) gIndex := by
  intro Hf H x xs d ds Q sm h1 h2 P
  unfold gIndex at P
  split at P
  · rename_i es d1
    split at P
    · rename_i ks k e1 e2
      obtain ⟨p, vs, rfl, q1, q2⟩ := h1
      have ev := keysD_vs q2 e1
      subst ev
      have dq := VwAll.dq sm h2
      have ex := keysD_vs dq e2
      subst ex
      cases r : ixK k ks with
      | none => rw [r] at P; exact P.elim
      | some j =>
        rw [r] at P
        obtain ⟨g1, g2⟩ := ixK_some r
        refine ⟨p, ks.map kV, kV k, j, kV k, rfl, rfl, .of q1, flat_k k, ?_, by rw [List.getElem?_map, g1]; rfl, by rw [eqV_k]; exact decide_eq_true rfl, fun m z hm hz => ?_, P _ (.int _)⟩
        · rw [List.all_map]
          exact List.all_eq_true.mpr fun k _ => flat_k k
        · rw [List.getElem?_map] at hz
          cases e : ks[m]? with
          | none => rw [e] at hz; cases hz
          | some z' =>
            rw [e] at hz
            cases hz
            rw [eqV_k]
            exact decide_eq_false (g2 m z' hm e)
    · exact P.elim
  · exact P.elim
theorem me_index {X : Cx} {C : Ct} {o e : Expr} {to te : TE} {m m2 : M RV} {apos cpos : Pos} (ho : MO X C o to m) (ha : MAs X C [e] (tCons te tNil) (msCons m2 msNil))
    (hbase : attributeBase o "index" X.env (eval o X.env) = eval o X.env := by rfl)
    (hfew : ((backTo cpos (starEach (e :: []) X.env)).all (fun x => !x.1) && (backToKw cpos (keywordEach [] X.env)).all (fun x => x.1.isSome)
      && decide ((e :: ([] : List Expr)).length + ([] : List Keyword).length + (if ([] : List Keyword).isEmpty then 0 else 1) < 30)) = true := by rfl)
    (hline : (apos.endLine == cpos.line) = true := by rfl) (hst : starEach (e :: []) X.env = (false, eval e X.env) :: starEach [] X.env := by rfl) (hplain : (backTo cpos (starEach [] X.env)).any (·.1) = false := by rfl) :
    ME X C (.Call (.Attribute o "index" apos) [e] [] cpos) (tBM C.K "list" (rIndex C.K) to (tCons te tNil)) (mBML gIndex m (msCons m2 msNil)) := ⟨by
      have q := pe_bm (apos := apos) (cpos := cpos) (r := rIndex X.K) PySem.F.plainAttrs_list PySem.F.slot_list_index PySem.F.type_list_index mt_index ho.pe ha.pa hbase hfew hline hst hplain
      rw [ho.hK] at q
      exact q, snd_bml mts_index ho.sn ha.sn, ho.hK⟩
@[simp] theorem x_bml (g : D → List D → Option Out) (m : M RV) (ms : M (List RV)) (ε : En) : mBML g m ms ε = (m ε).bind fun r ε1 => match view ε1 r with
  | some (.list _) => (ms ε1).bind fun rs ε2 => (match view ε2 r, viewAll ε2 rs with
    | some (.list ds), some es => outR (g (.list ds) es) ε2
    | _, _ => .bad)
  | _ => .bad := rfl
/-! ### a text split -/
def gSplit : D → List D → Option Out
  | .str a, [.str b] => if (b.length == 0) = false ∧ a.length + 2 ≤ sizeLine then some (.newl ((Txt.split a b).map .str)) else none
  | _, _ => none
def rSplit : V → List V → Hp → VK → Prop := fun x xs H Q => ∃ a b, x = .str a ∧ xs = [.str b] ∧ (b.length == 0) = false ∧ a.length + 2 ≤ sizeLine ∧ rNewStrs (Txt.split a b) H Q
theorem mr_split {X : Cx} : MtR X "str.split" rSplit := mt_split
theorem dq_strs {K : PySem.W.Frag} {H : Hp} : ∀ l : List Str, DqAll K H (l.map V.str) (l.map PyData.str)
  | [] => .nil
  | x :: l => .cons (.str x) (dq_strs l)
theorem mts_split {C : Ct} : MtS C rSplit gSplit := by
  intro Hf H x xs d ds Q sm h1 h2 P
  unfold gSplit at P
  split at P
  · rename_i a b
    split at P
    · rename_i hz
      cases h1
      have dq := VwAll.dq sm h2
      cases dq with
      | cons q1 q2 =>
        cases q2
        cases q1
        exact ⟨a, b, rfl, rfl, hz.1, hz.2, fun p hp => P p _ hp (dq_strs _)⟩
    · exact P.elim
  · exact P.elim
end M3

namespace M3
open PySem PySem.Spec L2
open PyProof.Rows hiding St
/-! ### f(.., k = v): keyword-only parameters, all told -/
/-- how it binds: n1 by place, the names ks behind -/
def KB (K : PySem.W.Frag) (fd : FuncData) (ps ks : List Str) (n1 : Nat) : Prop := ∀ (s : Shared) (us ws : List Value), K.In s.heap → us.length = n1 → ws.length = ks.length → BindsTo s fd ⟨us, ks.zip ws⟩ (ps.zip (us ++ ws))
/-- a def of the text, whose keyword-only parameters have no defaults that are used -/
structure DfnX (K : PySem.W.Frag) (x : Str) (st : Stmt) (f : Addr) (fd : FuncData) : Prop where
  ex : ∃ (oc : Value) (od : Option Addr) (dV kV doc pm : Value) (an : Option Addr) (cdv ct : Value) (osl : Array (Option Value)),
    fd = PySem.W.fnOf x x (defArgs st) (defBody st) (defScope st) dV kV doc pm an cdv ct ∧ K.lookup f = some ⟨oc, od, .func fd, osl⟩ ∧ PySem.W.codeIn K cdv x = true
  kp : PySem.W.keepIn K (.ref f) = true
theorem dfn_okX {P : Program} {w : World} {K : PySem.W.Frag} {mg : Str → Option Value} {base : Heap} {CX : CXT} {k : Nat} {x : Str} {st : Stmt} {ps N : List Str} {own : List Nat} {f : Addr} {fd : FuncData} {body : Sm} (D : DfnX K x st f fd) (S : FnScope N ps (defScope st))
    (hbody : ∀ (cdv : Value) (A : Around) (outer : List Env) (s : Shared) (H : Hp) (vs : List V) (E : XK), Room k (A.deeper (envOfC x (defScope st) s.heap.objs.size f cdv)) → (A.deeper (envOfC x (defScope st) s.heap.objs.size f cdv)).guards = some [] →
      ∃ t, PSs (cxOf CX P w K mg base N x (defScope st) f cdv A outer s H E) (defBody st) t ∧ SndS ⟨K, own, vs, fun c d _ H' => E c d H'⟩ t body) :
    FnG P w K mg base CX (k + 1) f fd ps (spM K ps.length (fnF own N.length body)) := by
  obtain ⟨oc, od, dV, kV, doc, pm, an, cdv, ct, osl, rfl, lk, hcd⟩ := D.ex
  refine fn_ofG lk hcd S (fun vs H Q E h => h.1) fun A outer s H vs Q E hr hgd hsp => ?_
  obtain ⟨hl, Hf, w', ε, En0, P0⟩ := hsp
  obtain ⟨t, h1, h2⟩ := hbody cdv A outer s H vs E hr hgd
  exact ⟨t, h1, body_fn (E0 := E) h2 En0 P0⟩
structure CalK (P : Program) (w : World) (K : PySem.W.Frag) (mg : Str → Option Value) (base : Heap) (CX : CXT) (k : Nat) (x : Str) (n1 : Nat) (ks : List Str) (F : M RV) : Prop where
  ex : ∃ (f : Addr) (fd : FuncData) (ps : List Str), mg x = some (.ref f) ∧ PySem.W.keepIn K (.ref f) = true ∧ KB K fd ps ks n1 ∧ FnG P w K mg base CX k f fd ps (spM K (n1 + ks.length) F)
theorem CalK.mono {P : Program} {w : World} {K : PySem.W.Frag} {mg : Str → Option Value} {base : Heap} {CX : CXT} {j k : Nat} {x : Str} {n1 : Nat} {ks : List Str} {F : M RV} (c : CalK P w K mg base CX j x n1 ks F) (h : j ≤ k) : CalK P w K mg base CX k x n1 ks F := by
  obtain ⟨f, fd, ps, h1, h2, h3, h4⟩ := c.ex
  exact ⟨f, fd, ps, h1, h2, h3, h4.mono h⟩
theorem FnG.calK {P : Program} {w : World} {K : PySem.W.Frag} {mg : Str → Option Value} {base : Heap} {CX : CXT} {k : Nat} {x : Str} {st : Stmt} {ps ks : List Str} {f : Addr} {fd : FuncData} {n1 : Nat} {F : M RV} (h : FnG P w K mg base CX k f fd ps (spM K (n1 + ks.length) F)) (D : DfnX K x st f fd) (hb : KB K fd ps ks n1) (hm : mg x = some (.ref f)) : CalK P w K mg base CX k x n1 ks F :=
  ⟨f, fd, ps, hm, D.kp, hb, h⟩
def tCallGK (n1 n2 : Nat) (sp : Sp) (E : L2.St → XK) (t tk : TA) : TE := fun σ H Q => t σ H fun vs H1 => tk σ H1 fun zs H2 => vs.length = n1 ∧ zs.length = n2 ∧ sp (vs ++ zs) H2 Q (E σ)
section
variable {X : Cx} {CX : CXT} {k : Nat} {f : Addr} {fd : FuncData} {ps ks : List Str} {sp : Sp} {E : L2.St → XK} {x : Str} {p pos : Pos} {e : Expr} {es : List Expr} {kws : List Keyword} {t tk : TA} {n1 : Nat}
theorem pe_callGK (F : FnG X.prog X.w X.K X.mg X.base CX k f fd ps sp) (hr : Room k X.A) (hgd : X.A.guards = some []) (hg : Gl X x) (hm : X.mg x = some (.ref f)) (hk : PySem.W.keepIn X.K (.ref f) = true) (hb : KB X.K fd ps ks n1) (hx : ∀ σ, PassesAt CX X σ (E σ))
    (ha : PA X (e :: es) t) (hkw : PK X kws tk) (hall : (backToKw pos (keywordEach kws X.env)).all (·.1.isSome) = true := by rfl) (hks : (backToKw pos (keywordEach kws X.env)).filterMap (·.1) = ks := by rfl)
    (hdb : (x == ("__debug__" : Str)) = false := by decide) (he : starEach (e :: es) X.env = (false, eval e X.env) :: starEach es X.env := by rfl)
    (hpl : ((backTo pos (starEach (e :: es) X.env)).any (·.1) || (backToKw pos (keywordEach kws X.env)).any (·.1.isNone)) = false := by rfl) :
    PE X (.Call (.Name x p) (e :: es) kws pos) (tCallGK n1 ks.length sp E t tk) := by
  refine ⟨fun pins s σ H Q I h => ?_⟩
  refine wpAny_Call_Name_kw (ld_glob I hg hm ?_ hdb)
  refine PySem.W.callWith_KW (h₀ := X.base) I.ok.mod.kin hk hall (thn (ha.run pos pins s σ H _ I h) fun us s1 ⟨vs, H1, I1, r, q⟩ => ?_) hpl he
  refine thn (hkw.run pos pins s1 σ H1 _ I1 q) fun ws s2 ⟨zs, H2, I2, rz, q2⟩ => ⟨I2.kIn, ?_⟩
  rw [hks]
  obtain ⟨l1, l2, says⟩ := q2
  have all : Vals (vs ++ zs) (us ++ ws) := r.append rz
  have bound := hb s2 us ws I2.kIn (r.length.symm.trans l1) (rz.length.symm.trans l2)
  refine wpAny_call (codeAny_mono (F.run X.A X.stack s2 H2 ⟨us, ks.zip ws⟩ _ _ Q (E σ) hr hgd I2.env0 bound all says) ?_)
  rintro (er | fl) s3 got
  · exact hx σ pins H2 s2 er s3 I2 got
  cases fl with
  | ret u => exact I2.after got
  | _ => exact got.elim
end
def msCat (n1 n2 : Nat) (ms ms2 : M (List RV)) : M (List RV) := fun ε => (ms ε).bind fun rs ε1 => (ms2 ε1).bind fun rs2 ε2 => if rs.length = n1 ∧ rs2.length = n2 then .ok (rs ++ rs2) ε2 else .bad
theorem opRs.app2 {C : Ct} {Hf : Hp} {σ : L2.St} : ∀ {vs zs : List V} {rs ss : List RV}, opRs C Hf σ vs rs → opRs C Hf σ zs ss → opRs C Hf σ (vs ++ zs) (rs ++ ss)
  | _, _, _, _, .nil, h => h
  | _, _, _, _, .cons a b, h => .cons a (opRs.app2 b h)
theorem opRs.len {C : Ct} {Hf : Hp} {σ : L2.St} : ∀ {vs : List V} {rs : List RV}, opRs C Hf σ vs rs → vs.length = rs.length
  | _, _, .nil => rfl
  | _, _, .cons a b => by rw [List.length_cons, List.length_cons, opRs.len b]
theorem snd_cat {C : Ct} {t tk : TA} {ms ms2 : M (List RV)} {n1 n2 : Nat} (h1 : Snd C relOs t ms) (h2 : Snd C relOs tk ms2) :
    Snd C relOs (fun σ H (Q : List V → Hp → Prop) => t σ H fun vs H1 => tk σ H1 fun zs H2 => vs.length = n1 ∧ zs.length = n2 ∧ Q (vs ++ zs) H2) (msCat n1 n2 ms ms2) := by
  intro Hf H w σ ε Q E P
  refine h1 Hf H w σ ε _ E ?_
  unfold msCat at P
  cases e : ms ε with
  | err x ε1 => rw [e] at P; exact P
  | bad => rw [e] at P; exact P
  | ok rs ε1 =>
    rw [e] at P
    intro Hf1 H1 w1 S b E1 st rb
    have P1 := P.step (st.out (o'' := O w1) fun x z => .inl z)
    simp only [R.bind] at P1
    refine h2 Hf1 H1 w1 σ ε1 _ E1 ?_
    cases e2 : ms2 ε1 with
    | err x ε2 => rw [e2] at P1; exact P1
    | bad => rw [e2] at P1; exact P1
    | ok rs2 ε2 =>
      rw [e2] at P1
      intro Hf2 H2 w2 S2 b2 E2 st2 rb2
      have P2 := P1.step (st2.out (o'' := O w2) fun x z => .inl z)
      simp only at P2
      split at P2
      · rename_i hl
        exact ⟨(opRs.len rb.2).trans hl.1, (opRs.len rb2.2).trans hl.2, P2.here E2 ⟨fun _ z => z, opRs.app2 (opRs.mono st2.mono rb.2) rb2.2⟩⟩
      · exact P2.elim
structure MKw (X : Cx) (C : Ct) (kws : List Keyword) (tk : TA) (ms : M (List RV)) : Prop where
  pk : PK X kws tk
  sn : Snd C relOs tk ms
theorem mkw_nil {X : Cx} {C : Ct} : MKw X C [] tNil msNil := ⟨pk_nil, snd_nil⟩
theorem mkw_cons {X : Cx} {C : Ct} {nm : Option Str} {e : Expr} {kpos : Pos} {kws : List Keyword} {te : TE} {tr : TA} {m : M RV} {ms : M (List RV)} (h1 : MO X C e te m) (h2 : MKw X C kws tr ms) : MKw X C (⟨nm, e, kpos⟩ :: kws) (tCons te tr) (msCons m ms) := ⟨pk_cons h1.pe h2.pk, snd_cons h1.sn h2.sn⟩
theorem me_callK {X : Cx} {C : Ct} {CX : CXT} {k : Nat} {x : Str} {n1 : Nat} {ks : List Str} {F : M RV} {p pos : Pos} {e : Expr} {es : List Expr} {kws : List Keyword} {t tk : TA} {ms ms2 : M (List RV)} (K : CalK X.prog X.w X.K X.mg X.base CX k x n1 ks F) (hr : Room k X.A) (hgd : X.A.guards = some []) (hx : PassW CX X C.W)
    (ha : MAs X C (e :: es) t ms) (hk : MKw X C kws tk ms2) (hall : (backToKw pos (keywordEach kws X.env)).all (·.1.isSome) = true := by rfl) (hks : (backToKw pos (keywordEach kws X.env)).filterMap (·.1) = ks := by rfl) (hg : Gl X x := by rfl)
    (hdb : (x == ("__debug__" : Str)) = false := by decide) (he : starEach (e :: es) X.env = (false, eval e X.env) :: starEach es X.env := by rfl)
    (hpl : ((backTo pos (starEach (e :: es) X.env)).any (·.1) || (backToKw pos (keywordEach kws X.env)).any (·.1.isNone)) = false := by rfl) :
    ME X C (.Call (.Name x p) (e :: es) kws pos) (tCallGK n1 ks.length (spM C.K (n1 + ks.length) F) (WE C.W) t tk) (mCall (n1 + ks.length) F (msCat n1 ks.length ms ms2)) := by
  obtain ⟨f, fd, ps, h1, h2, h3, h4⟩ := K.ex
  refine ⟨?_, ?_, ha.hK⟩
  · have q := pe_callGK (pos := pos) (p := p) h4 hr hgd hg h1 h2 h3 hx ha.pa hk.pk hall hks hdb he hpl
    rw [ha.hK] at q
    exact q
  · exact snd_call (n := n1 + ks.length) (F := F) (C := C) (E := WE C.W) (fun _ _ _ _ z => z) (snd_cat ha.sn hk.sn)
@[simp] theorem x_cat {n1 n2 : Nat} {ms ms2 : M (List RV)} {ε : En} : msCat n1 n2 ms ms2 ε = (ms ε).bind fun rs ε1 => (ms2 ε1).bind fun rs2 ε2 => if rs.length = n1 ∧ rs2.length = n2 then .ok (rs ++ rs2) ε2 else .bad := rfl
end M3

namespace M3
open PySem PySem.Spec L2
open PyProof.Rows hiding St
/-! ### set(list of whole numbers), in order: sorted(set(xs)) -/
abbrev IntsAt (w : World) (h : Heap) (a : Addr) (l : List Key) : Prop := SetR w h a (fun j => memK (.inl j) l) l.length
theorem IntsAt.move {w : World} {h h' : Heap} {a : Addr} {l : List Key} (q : IntsAt w h a l) (e : ∀ o, h.get? a = some o → h'.get? a = some o) : IntsAt w h' a l := SetR.at q e
def IsI (k : Key) (v : Value) : Prop := ∃ (j : Int) (t : Tok), k = .inl j ∧ v = .int j t
theorem add_int {prog : Program} {w : World} {A : Around} {E : Value → Shared → Prop} {s : Shared} {S : Addr} {l : List Key} {k : Key} {j : Int} {tk : Tok} {Q : Bool → Shared → Prop}
    (h1 : k = .inl j) (q : IntsAt w s.heap S l) (room : l.length + 1 < scanBound)
    (next : ∀ b h', Heap.SameBut S s.heap h' → IntsAt w h' S (stK l k) → Q b { s with heap := h', toks := s.toks + 1 }) : wpAny (model prog w) A (setAdd S (.int j tk)) Q E s := by
  subst h1
  unfold setAdd
  refine wpAny_holding (wpAny_bind ((intKind prog w).pyHash (intKind_is prog w j tk) ?_))
  refine setR_add_hashed (s := { s with toks := s.toks + 1 }) q room fun h' same z => next _ h' same ?_
  have e1 : (fun x : Int => memK (.inl x) (stK l (.inl j))) = fun x => memK (.inl x) l || decide (x = j) := funext fun x => by
    rw [stepK_any]
    congr 1
    exact decide_eq_decide.mpr ⟨fun z => by injection z, fun z => by rw [z]⟩
  unfold IntsAt
  rw [e1, stepK_length]
  exact z
section
variable {prog : Program} {w : World} {A : Around} {R : Result → Shared → Prop} {I : Addr} {fp wr : List Addr} {G : Array GenState → Array GenState → Prop} {n : Nat} {P : Nat → Value → Prop} {St : Nat → Shared → Prop}
/-- all that an iterator gives, put into a set of keys -/
theorem loop_ints (W : WalksS prog w A.in1 I fp wr G n P St) {S : Addr} (away : S ∉ fp) {ks : List Key} (len : ks.length = n)
    (hv : ∀ (i : Nat) (k : Key) (v : Value), ks[i]? = some k → P i v → IsI k v) (few : n + 1 < scanBound) (left : Nat) :
    ∀ (i : Nat) (s : Shared), i + left = n → St i s → IntsAt w s.heap S (upTo ks i) →
      (∀ s', Moved (S :: wr) G s s' → IntsAt w s'.heap S (ddK ks) → R (.ok (.ret .none)) s') →
      codeAny (model prog w) A (.builtin "set.update.loop" ⟨[.ref S, .ref I], []⟩) R s := by
  have far : S ∉ wr := fun x => away (W.sub _ x)
  have wide : ∀ b ∈ wr, b ∈ S :: wr := fun _ => List.mem_cons_of_mem _
  induction left with
  | zero =>
    intro i s e st q fin
    obtain rfl : i = n := by omega
    rw [upTo_all len] at q
    refine codeAny_builtin F.entry_set_update_loop ?_
    rw [Around.under_plainId F.plain_set_update_loop _]
    show wpAny _ A.in1 (pyNext (.ref I) >>= _) _ _ s
    exact wpAny_bind (W.done s _ _ st fun s' mv => wpAny_pure (fin s' (mv.mono wide) (q.move (mv.heap S · far))))
  | succ left more =>
    intro i s e st q fin
    have lt : i < ks.length := by omega
    have at_ : ks[i]? = some ks[i] := List.getElem?_eq_getElem lt
    have room : (upTo ks i).length + 1 < scanBound := by have := upTo_le ks i; omega
    refine codeAny_builtin F.entry_set_update_loop ?_
    rw [Around.under_plainId F.plain_set_update_loop _]
    show wpAny _ A.in1 (pyNext (.ref I) >>= _) _ _ s
    refine wpAny_bind (W.item i s _ _ (by omega) st fun v s1 pv st1 mv => ?_)
    obtain ⟨jj, tj, kv1, kv2⟩ := hv i _ v at_ pv
    subst kv2
    show wpAny _ A.in1 (holding [.int jj tj] (setAdd S (.int jj tj)) >>= _) _ _ s1
    refine wpAny_bind (wpAny_holding (add_int kv1 (q.move (mv.heap S · far)) room fun b h' same q1 => ?_))
    rw [← upTo_succ at_] at q1
    have st2 : St (i + 1) { s1 with heap := h', toks := s1.toks + 1 } := W.frame _ s1 _ _ st1 (Nat.le_succ _) fun a ha o x => by
      rw [same.2 a fun z : a = S => away (z ▸ ha)]; exact x
    refine wpAny_pure ⟨plainId_quiet F.plain_set_update_loop _, more (i + 1) _ (by omega) st2 q1 fun s2 mv2 q2 => ?_⟩
    have mv1 : Moved (S :: wr) G s { s1 with heap := h', toks := s1.toks + 1 } := (mv.mono wide).then_heap (Nat.le_succ _) fun a o ha x => by
      rw [same.2 a fun z : a = S => ha (z ▸ List.mem_cons_self)]; exact x
    exact fin s2 (Moved.trans W.gtrans mv1 mv2) q2
end
section
open PySem.F
variable {prog : Program} {w : World} {A : Around} {E : Value → Shared → Prop} {s : Shared}
theorem bare_ints {h : Heap} {a : Addr} (e : h.get? a = some (bareSet (!w.params.followText "set-order"))) (ks : List Key) : IntsAt w h a (upTo ks 0) :=
  ⟨_, #[], 0, _, e, ⟨rfl, rfl, rfl⟩, rfl, (fun e he => by simp at he), (by simp), (fun k => by simp [upTo, ddK, memK]), (by decide), (by rfl), rfl, List.Pairwise.nil, by
    show _ ∨ (!w.params.followText "set-order") = true
    cases w.params.followText "set-order"
    · exact .inr rfl
    · exact .inl rfl⟩
theorem code_set_led1 (a : Value) {Q₁ : Value → Shared → Prop}
    (h : Q₁ (.ref s.heap.objs.size) { s with heap := s.heap.push (bareSet (!w.params.followText "set-order")) }) :
    codeAny (model prog w) A (.call (.builtin "set.__new__") ⟨[.type "set", a], []⟩) (wants Q₁ E) s := by
  refine codeAny_of_tree ?_
  show wpAny _ A.in1 (do checkBuiltinCall "set.__new__" ⟨[.type "set", a], []⟩; again (.builtin "set.__new__" ⟨[.type "set", a], []⟩)) _ _ s
  refine wpAny_bind (wpAny_of_eq (F.newCall_set_1 a) (wpAny_pure ⟨plainId_quiet F.plain_set_new _, codeAny_builtin F.entry_set_new ?_⟩))
  rw [Around.under_plainId F.plain_set_new _]
  unfold Builtin.«set.__new__» Builtin.Frozenset.newClass
  have hsub := sub_set_self
  obtain ⟨hp, g, d, tk, os⟩ := s
  dsimp only
  wp_walk
  refine wpAny_askSetting (wpAny_pure ?_)
  dsimp only
  simp only [newObj]
  refine wpAny_bind (wpAny_alloc (wpAny_pure ?_))
  exact wpAny_pure h
/-- set(list): what stands in the list is put in -/
theorem init_ints {B : Around} {l : Addr} {items : Array Value} {ks : List Key} {T : PySem.Fin → Shared → Prop} {E2 : Value → Shared → Prop} (calm : B.in1.handled = none) (hl : s.heap.IsList l items) (len : ks.length = items.size)
    (hi : ∀ (i : Nat) (k : Key) (v : Value), ks[i]? = some k → items[i]? = some v → IsI k v) (few : items.size + 1 < scanBound)
    (fin : ∀ h' tk, IntsAt w h' s.heap.objs.size (ddK ks) → (∀ b o, b < s.heap.objs.size → s.heap.get? b = some o → h'.get? b = some o) → T (.done (.ret .none)) { s with heap := h', toks := tk }) :
    wpAny (model prog w) B (Builtin.«set.__init__» ⟨[.ref s.heap.objs.size] ++ [.ref l], []⟩) T E2 { s with heap := s.heap.push (bareSet (!w.params.followText "set-order")) } := by
  have sls := F.sub_list_set
  have slf := F.sub_list_frozenset
  have nd : (Value.type "list" == Value.type "dict") = false := by decide
  obtain ⟨⟨_, od, _, os⟩, got, rfl, n, rfl⟩ := hl
  have low := Heap.lt_size got
  have got1 : (s.heap.push (bareSet (!w.params.followText "set-order"))).get? l = some { cls := .type "list", dict := od, data := .seq items n, slots := os } := Heap.get?_push_of_some _ got
  have isl : (s.heap.push (bareSet (!w.params.followText "set-order"))).IsList l items := ⟨_, got1, rfl, n, rfl⟩
  have size1 : (s.heap.push (bareSet (!w.params.followText "set-order"))).objs.size = s.heap.objs.size + 1 := by rw [Heap.size_push]
  unfold Builtin.«set.__init__» noKeywords Builtin.Frozenset.updateFrom
  generalize hI : pyIter = PI
  wp_walk
  subst hI
  refine wpAny_pyIter_list isl (wpAny_bind (wpAny_runValue ?_))
  have apart : s.heap.objs.size ∉ [(s.heap.push (bareSet (!w.params.followText "set-order"))).objs.size, l] := by
    rw [size1]
    simp
    exact Nat.ne_of_gt low
  refine loop_ints ((Walks.list (by simpa using calm) _ l (by rw [size1]; exact Nat.ne_of_lt (Nat.lt_succ_of_lt low)) items).toS) apart len hi few items.size 0 _ (by omega) ⟨⟨_, Heap.get?_push_size _ rfl, rfl, rfl⟩, isl.push _⟩ ?_ fun s2 mv q => ?_
  · exact bare_ints (Heap.get?_push_of_some _ (Heap.get?_push_size _ rfl)) ks
  · obtain ⟨h2, g2, d2, tk, os2⟩ := s2
    obtain rfl : g2 = s.gens := mv.gens
    obtain rfl : d2 = s.drawn := mv.drawn
    obtain rfl : os2 = s.os := mv.os
    show wpAny _ _ _ _ _ _
    refine wpAny_pure ?_
    show wpAny _ _ (ret Value.none) _ _ _
    refine wpAny_pure (fin h2 tk q fun b o lt e => mv.heap b o ?_ (Heap.get?_push_of_some _ (Heap.get?_push_of_some _ e)))
    rw [size1]
    simp
    exact ⟨Nat.ne_of_lt lt, Nat.ne_of_lt (Nat.lt_succ_of_lt lt)⟩
theorem call_set_ints {l : Addr} {items : Array Value} {ks : List Key} {Q : Value → Shared → Prop}
    (hh : A.handled = none) (hl : s.heap.IsList l items) (len : ks.length = items.size) (hi : ∀ (i : Nat) (k : Key) (v : Value), ks[i]? = some k → items[i]? = some v → IsI k v) (hb : items.size + 1 < scanBound)
    (h : ∀ (h' : Heap) (tk : Nat), IntsAt w h' s.heap.objs.size (ddK ks) → (∀ b o, b < s.heap.objs.size → s.heap.get? b = some o → h'.get? b = some o) → Q (.ref s.heap.objs.size) { s with heap := h', toks := tk }) :
    wpAny (model prog w) A (call (.type "set") [.ref l]) Q E s := by
  obtain ⟨c, tl, hmro⟩ := F.called_set.mro
  have made := F.called_set.made
  have sub := F.called_set.sub
  have plainType := F.called_set.notType
  have creates := F.called_set.canCreate
  have one := F.typeCall_set_1 (.ref l)
  have look := F.called_set.init.lookup
  have bind := F.called_set.init.bind (.ref s.heap.objs.size)
  refine wpAny_call (codeAny_of_tree (show wpAny _ _ (callAny (.type "set") _) _ _ _ from wpAny_pure ⟨Code.quiet_builtin _ (by decide +kernel), codeAny_builtin F.entry_type_call ?_⟩))
  rw [Around.under_plain (weight_type_call_type "set" [.ref l] []) rfl]
  repeat (any_goals (first | assumption | wp_step))
  refine codeAny_mono (code_set_led1 (.ref l) (E := E) (Q₁ := fun o s1 => o = .ref s.heap.objs.size ∧ s1 = { s with heap := s.heap.push (bareSet (!w.params.followText "set-order")) }) ⟨rfl, rfl⟩) fun r s1 got => ?_
  rcases r with e | fl
  · exact got
  cases fl with
  | ret o =>
    obtain ⟨rfl, rfl⟩ := got
    have bare : (s.heap.push (bareSet (!w.params.followText "set-order"))).get? s.heap.objs.size = some (bareSet (!w.params.followText "set-order")) := Heap.get?_push_size _ rfl
    have typed : Shared.TypeIs { s with heap := s.heap.push (bareSet (!w.params.followText "set-order")) } (.ref s.heap.objs.size) "set" := ⟨_, bare, rfl⟩
    repeat (any_goals (first | assumption | wp_step))
    refine codeAny_mono (codeAny_call_builtin (R := wants (fun r s2 => r = .none ∧ ∃ h' tk, s2 = { s with heap := h', toks := tk } ∧ IntsAt w h' s.heap.objs.size (ddK ks) ∧ ∀ b o, b < s.heap.objs.size → s.heap.get? b = some o → h'.get? b = some o) E)
      F.called_set.init.plain F.entry_set_init (check_set_init_1 typed ?_)) fun r2 s2 got2 => ?_
    · exact init_ints (by simp [hh]) hl len hi hb fun h' tk q kept => ⟨rfl, h', tk, rfl, q, kept⟩
    · rcases r2 with e | fl2
      · exact got2
      cases fl2 with
      | ret r =>
        obtain ⟨rfl, h', tk, rfl, q, kept⟩ := got2
        repeat (any_goals (first | assumption | wp_step))
        exact h _ _ q kept
      | _ => exact got2.elim
  | _ => exact got.elim
end
end M3

namespace M3
open PySem PySem.Spec L2
open PyProof.Rows hiding St
theorem ddK_step {acc : List Key} {k : Key} {x : Key} : x ∈ stK acc k ↔ x ∈ acc ∨ x = k := by
  have h := stepK_any acc k x
  rw [Bool.eq_iff_iff, Bool.or_eq_true, memK_iff, memK_iff, decide_eq_true_iff] at h
  exact h
theorem fold_mem : ∀ (ks acc : List Key) (x : Key), x ∈ ks.foldl stK acc ↔ x ∈ acc ∨ x ∈ ks
  | [], acc, x => by simp
  | k :: ks, acc, x => by
    rw [List.foldl_cons, fold_mem ks, ddK_step, List.mem_cons, or_assoc]
theorem ddK_mem {ks : List Key} {x : Key} : x ∈ ddK ks ↔ x ∈ ks := by
  unfold ddK; rw [fold_mem]; simp
theorem sorted_ints_at {X : Cx} {pins : List (Addr × Obj)} {σ : L2.St} {H1 : Hp} {s1 : Shared} {a : Addr} {S : Int → Bool} {n : Nat} {Q : VK} (I2 : Inv X pins σ H1 s1) (hc : X.calm = true) (hS : SetR X.w s1.heap a S n) (h64 : n < 64)
    (q : ∀ (os : List Int) (p : Addr), os.Pairwise (· < ·) → (∀ k : Int, k ∈ os ↔ S k = true) → H1 p = none → Q (.ref p) (upd H1 p (.lst (os.map V.int)))) :
    wpAny (model X.prog X.w) X.A (call (.builtin "sorted") [.ref a]) (EP X pins σ Q) X.xe s1 := by
  refine sorted_set hS (I2.ok.hd hc) h64 fun s' p out c os k g o hp hgp hi hs hm hl2 => ?_
  have hlen : (os.map V.int).length ≤ sizeLine := by rw [List.length_map, hl2, sizeLine_eq]; omega
  have hn : H1 p = none := I2.hok.fresh hp
  have J : Inv X pins σ (upd H1 p (.lst (os.map V.int))) { s1 with heap := s'.heap, gens := s'.gens, drawn := s'.drawn, toks := s'.toks } :=
    I2.call (ch := []) (Un.laid k hp hn) (I2.hok.laid k hp ⟨hlen, out.toList, c, vals_of_ints hi, hgp⟩) (by rw [g]; exact I2.bare) (fun _ z => nomatch z)
  have e : s' = { s1 with heap := s'.heap, gens := s'.gens, drawn := s'.drawn, toks := s'.toks } := by
    cases s'
    cases s1
    cases o
    rfl
  rw [e]
  exact ⟨.ref p, _, J, rfl, q os p hs hm hn⟩
/-- what sorted(set(ns)) is -/
def SrtSet (ns out : List Int) : Prop := out.Pairwise (· < ·) ∧ ∀ k : Int, k ∈ out ↔ k ∈ ns
def tSortSet (K : PySem.W.Frag) (ta : TE) : TE := fun σ H Q => ta σ H fun x H1 => ∃ (l : Addr) (ns : List Int), x = V.ref l ∧ SqL K H1 l (ns.map V.int) ∧ ns.length < 64 ∧ ∀ (out : List Int) (p : Addr), SrtSet ns out → H1 p = none → Q (.ref p) (upd H1 p (.lst (out.map V.int)))
theorem pe_sortSet {X : Cx} {a : Expr} {ta : TE} {p p2 q pos : Pos} (hc : X.calm = true) (hg : Gl X "sorted") (hm : X.mg "sorted" = none) (hg2 : Gl X "set") (hm2 : X.mg "set" = none) (ha : PE X a ta)
    (na : starEach [a] X.env = (false, eval a X.env) :: starEach [] X.env := by rfl) : PE X (.Call (.Name "sorted" p) [.Call (.Name "set" p2) [a] [] q] [] pos) (tSortSet X.K ta) := by
  refine ⟨fun pins s σ H Q I h => ?_⟩
  refine Call_ (ld_blt I hg hm PyProof.Rows.boot_sorted ?_)
  refine PyProof.Rows.callWith_builtin1 (PyProof.Rows.args_cons ?_ rfl) rfl rfl
  refine Call_ (ld_blt I hg2 hm2 PyProof.Rows.boot_set ?_)
  refine PyProof.Rows.callWith_type1 (PyProof.Rows.args_cons (thn (ha.run pins s σ H _ I h) fun v s1 ⟨x, H1, I1, r1, q1⟩ => PyProof.Rows.args_nil ?_) na) na rfl
  obtain ⟨l, ns, rfl, hq, h1, q1⟩ := q1
  cases r1
  obtain ⟨its, r, pl, hz⟩ := I1.list hq
  have hl : its.toArray.size = (ns.map Sum.inl : List Key).length := by rw [List.size_toArray, ← r.length, List.length_map, List.length_map]
  have hln : its.toArray.size = ns.length := by rw [hl, List.length_map]
  refine call_set_ints (I1.ok.hd hc) pl.isList (ks := ns.map Sum.inl) hl.symm (fun i k v hk hv => ?_) (by rw [hln]; unfold scanBound; omega) fun h' tk hS hk => ?_
  · rw [List.getElem?_map] at hk
    cases e : ns[i]? with
    | none => rw [e] at hk; cases hk
    | some j =>
      rw [e] at hk
      cases hk
      have rr : ∀ {ns : List Int} {us : List Value}, Vals (ns.map V.int) us → ∀ (i : Nat) (j : Int) (v : Value), ns[i]? = some j → us[i]? = some v → ∃ t : Tok, v = .int j t := by
        intro ns
        induction ns with
        | nil => intro us _ i j v e _; simp at e
        | cons n ns ih =>
          intro us hv i j v e1 e2
          cases hv with
          | cons r1 r2 =>
            cases i with
            | zero =>
              simp at e1 e2
              subst e1
              subst e2
              exact r1
            | succ i => exact ih r2 i j v (by simpa using e1) (by simpa using e2)
      obtain ⟨t, ev⟩ := rr r i j v e (by simpa using hv)
      exact ⟨j, t, rfl, ev⟩
  refine PyProof.Rows.args_nil ?_
  have hle : (ddK (ns.map Sum.inl)).length ≤ ns.length := by have := ddK_le (ns.map Sum.inl); rw [List.length_map] at this; exact this
  have I2 : Inv X pins σ H1 { s1 with heap := h', toks := tk } := I1.kept fun b o e => hk b o (Heap.lt_size e) e
  exact sorted_ints_at I2 hc hS (by omega) fun os p hs hm hn => q1 os p ⟨hs, fun k => by
    rw [hm, memK_iff, ddK_mem]
    exact ⟨fun z => by
      obtain ⟨j, hj, ej⟩ := List.mem_map.mp z
      cases ej
      exact hj, fun z => List.mem_map_of_mem z⟩⟩ hn
/-- the mirror: by putting in order -/
def insI (k : Int) : List Int → List Int
  | [] => [k]
  | j :: l => if k < j then k :: j :: l else if k = j then j :: l else j :: insI k l
def srtI (ns : List Int) : List Int := ns.foldr insI []
theorem insI_mem {k x : Int} : ∀ {l : List Int}, x ∈ insI k l ↔ x = k ∨ x ∈ l
  | [] => by simp [insI]
  | j :: l => by
    unfold insI
    split
    · simp
    · split
      · rename_i h
        subst h
        simp
      · rw [List.mem_cons, insI_mem, List.mem_cons]
        constructor
        · rintro (h | h | h)
          · exact .inr (.inl h)
          · exact .inl h
          · exact .inr (.inr h)
        · rintro (h | h | h)
          · exact .inr (.inl h)
          · exact .inl h
          · exact .inr (.inr h)
theorem insI_up {k : Int} : ∀ {l : List Int}, l.Pairwise (· < ·) → (insI k l).Pairwise (· < ·)
  | [], _ => by simp [insI]
  | j :: l, h => by
    have h2 := List.pairwise_cons.mp h
    unfold insI
    split
    · rename_i q
      exact List.pairwise_cons.mpr ⟨fun x hx => by
        rcases List.mem_cons.mp hx with rfl | hx
        · exact q
        · exact Int.lt_trans q (h2.1 x hx), h⟩
    · split
      · exact h
      · rename_i q1 q2
        exact List.pairwise_cons.mpr ⟨fun x hx => by
          rcases insI_mem.mp hx with rfl | hx
          · omega
          · exact h2.1 x hx, insI_up h2.2⟩
theorem srtI_ok : ∀ ns : List Int, SrtSet ns (srtI ns)
  | [] => ⟨.nil, fun k => Iff.rfl⟩
  | n :: ns => by
    obtain ⟨h1, h2⟩ := srtI_ok ns
    exact ⟨insI_up h1, fun k => by show k ∈ insI n (srtI ns) ↔ _; rw [insI_mem, h2, List.mem_cons]⟩
theorem up_one : ∀ {a b : List Int}, a.Pairwise (· < ·) → b.Pairwise (· < ·) → (∀ k, k ∈ a ↔ k ∈ b) → a = b
  | [], [], _, _, _ => rfl
  | [], y :: b, _, _, h => by have := (h y).mpr List.mem_cons_self; cases this
  | x :: a, [], _, _, h => by have := (h x).mp List.mem_cons_self; cases this
  | x :: a, y :: b, ha, hb, h => by
    have a2 := List.pairwise_cons.mp ha
    have b2 := List.pairwise_cons.mp hb
    have e : x = y := by
      rcases List.mem_cons.mp ((h x).mp List.mem_cons_self) with q | q
      · exact q
      · rcases List.mem_cons.mp ((h y).mpr List.mem_cons_self) with r | r
        · exact r.symm
        · have := b2.1 x q
          have := a2.1 y r
          omega
    subst e
    congr 1
    refine up_one a2.2 b2.2 fun k => ⟨fun hk => ?_, fun hk => ?_⟩
    · rcases List.mem_cons.mp ((h k).mp (List.mem_cons_of_mem _ hk)) with q | q
      · have := a2.1 k hk; omega
      · exact q
    · rcases List.mem_cons.mp ((h k).mpr (List.mem_cons_of_mem _ hk)) with q | q
      · have := b2.1 k hk; omega
      · exact q
theorem srt_one {ns out : List Int} (h : SrtSet ns out) : out = srtI ns := up_one h.1 (srtI_ok ns).1 fun k => (h.2 k).trans ((srtI_ok ns).2 k).symm
def intsZ : List D → Option (List Int)
  | [] => some []
  | .int i :: ds => (intsZ ds).map (i :: ·)
  | _ => none
theorem intsZ_vs {K : PySem.W.Frag} {H : Hp} : ∀ {vs : List V} {ds : List D} {ns : List Int}, DqAll K H vs ds → intsZ ds = some ns → vs = ns.map V.int
  | _, _, _, .nil, e => by cases e; rfl
  | _, _, _, .cons (d := d) (ds := ds) a b, e => by
    cases d with
    | int i =>
      unfold intsZ at e
      cases q : intsZ ds with
      | none => rw [q] at e; cases e
      | some bs =>
        rw [q] at e
        cases e
        cases a
        rw [intsZ_vs b q]
        rfl
    | _ => cases e
theorem dq_intsZ {K : PySem.W.Frag} {H : Hp} : ∀ l : List Int, DqAll K H (l.map V.int) (l.map PyData.int)
  | [] => .nil
  | x :: l => .cons (.int x) (dq_intsZ l)
def mSortSet (m : M RV) : M RV := fun ε => (m ε).bind fun r ε1 => match view ε1 r with
  | some (.list ds) => (match intsZ ds with
    | some ns => if ns.length < 64 then .ok (.new (.lst ((srtI ns).map PyData.int))) ε1 else .bad
    | none => .bad)
  | _ => .bad
@[simp] theorem x_sortSet {m : M RV} {ε : En} : mSortSet m ε = (m ε).bind fun r ε1 => match view ε1 r with
  | some (.list ds) => (match intsZ ds with
    | some ns => if ns.length < 64 then .ok (.new (.lst ((srtI ns).map PyData.int))) ε1 else .bad
    | none => .bad)
  | _ => .bad := rfl
theorem me_sortSet {X : Cx} {C : Ct} {a : Expr} {ta : TE} {m : M RV} {p p2 q pos : Pos} (h : MO X C a ta m) (hm : X.mg "sorted" = none) (hm2 : X.mg "set" = none) (hg : Gl X "sorted" := by rfl) (hg2 : Gl X "set" := by rfl) (hc : X.calm = true := by rfl)
    (na : starEach [a] X.env = (false, eval a X.env) :: starEach [] X.env := by rfl) : ME X C (.Call (.Name "sorted" p) [.Call (.Name "set" p2) [a] [] q] [] pos) (tSortSet C.K ta) (mSortSet m) := by
  refine ⟨by have z := pe_sortSet (p := p) (p2 := p2) (q := q) (pos := pos) hc hg hm hg2 hm2 h.pe na; rw [h.hK] at z; exact z, ?_, h.hK⟩
  refine Snd.bind (t2 := fun (x : V) (σ : L2.St) H1 (Q : VK) => ∃ (l : Addr) (ns : List Int), x = V.ref l ∧ SqL C.K H1 l (ns.map V.int) ∧ ns.length < 64 ∧ ∀ (out : List Int) (p : Addr), SrtSet ns out → H1 p = none → Q (.ref p) (upd H1 p (.lst (out.map V.int)))) h.sn fun Hf H w σ ε S b r Q E rb P => ?_
  split at P
  · rename_i ds ev
    split at P
    · rename_i ns en
      split at P
      · rename_i hz
        obtain ⟨p, vs, rfl, q1, q2⟩ := rb.2.view E ev
        have e := intsZ_vs q2 en
        subst e
        refine ⟨p, ns, rfl, .of q1, hz, fun out p2 ho hp => ?_⟩
        rw [srt_one ho]
        have z := OutP.of (o := some (.newl ((srtI ns).map PyData.int))) E (show PostX C relRV Hf H w σ Q (outR (some (.newl ((srtI ns).map PyData.int))) ε) from P)
        exact z p2 _ hp (dq_intsZ _)
      · exact P.elim
    · exact P.elim
  · exact P.elim
end M3

namespace M4
open PySem PySem.Spec L2 M3
open PyProof.Rows hiding St
theorem kb_none_int : kitB "NoneType" "int" = some false := by decide +kernel
theorem kb_bool_int : kitB "bool" "int" = some true := by decide +kernel
theorem kb_int_int : kitB "int" "int" = some true := by decide +kernel
theorem kb_str_int : kitB "str" "int" = some false := by decide +kernel
theorem kb_list_int : kitB "list" "int" = some false := by decide +kernel
theorem kb_tuple_int : kitB "tuple" "int" = some false := by decide +kernel
theorem kb_dict_int : kitB "dict" "int" = some false := by decide +kernel
def is_int : D → Bool
  | .int _ => true
  | .bool _ => true
  | _ => false
theorem isi_int (d : D) : isiD d "int" = some (is_int d) := by
  cases d <;> first | exact kb_none_int | exact kb_bool_int | exact kb_int_int | exact kb_str_int | exact kb_list_int | exact kb_tuple_int | exact kb_dict_int
theorem kb_none_bool : kitB "NoneType" "bool" = some false := by decide +kernel
theorem kb_bool_bool : kitB "bool" "bool" = some true := by decide +kernel
theorem kb_int_bool : kitB "int" "bool" = some false := by decide +kernel
theorem kb_str_bool : kitB "str" "bool" = some false := by decide +kernel
theorem kb_list_bool : kitB "list" "bool" = some false := by decide +kernel
theorem kb_tuple_bool : kitB "tuple" "bool" = some false := by decide +kernel
theorem kb_dict_bool : kitB "dict" "bool" = some false := by decide +kernel
def is_bool : D → Bool
  | .bool _ => true
  | _ => false
theorem isi_bool (d : D) : isiD d "bool" = some (is_bool d) := by
  cases d <;> first | exact kb_none_bool | exact kb_bool_bool | exact kb_int_bool | exact kb_str_bool | exact kb_list_bool | exact kb_tuple_bool | exact kb_dict_bool
theorem kb_none_str : kitB "NoneType" "str" = some false := by decide +kernel
theorem kb_bool_str : kitB "bool" "str" = some false := by decide +kernel
theorem kb_int_str : kitB "int" "str" = some false := by decide +kernel
theorem kb_str_str : kitB "str" "str" = some true := by decide +kernel
theorem kb_list_str : kitB "list" "str" = some false := by decide +kernel
theorem kb_tuple_str : kitB "tuple" "str" = some false := by decide +kernel
theorem kb_dict_str : kitB "dict" "str" = some false := by decide +kernel
def is_str : D → Bool
  | .str _ => true
  | _ => false
theorem isi_str (d : D) : isiD d "str" = some (is_str d) := by
  cases d <;> first | exact kb_none_str | exact kb_bool_str | exact kb_int_str | exact kb_str_str | exact kb_list_str | exact kb_tuple_str | exact kb_dict_str
theorem kb_none_tuple : kitB "NoneType" "tuple" = some false := by decide +kernel
theorem kb_bool_tuple : kitB "bool" "tuple" = some false := by decide +kernel
theorem kb_int_tuple : kitB "int" "tuple" = some false := by decide +kernel
theorem kb_str_tuple : kitB "str" "tuple" = some false := by decide +kernel
theorem kb_list_tuple : kitB "list" "tuple" = some false := by decide +kernel
theorem kb_tuple_tuple : kitB "tuple" "tuple" = some true := by decide +kernel
theorem kb_dict_tuple : kitB "dict" "tuple" = some false := by decide +kernel
def is_tuple : D → Bool
  | .tuple _ => true
  | _ => false
theorem isi_tuple (d : D) : isiD d "tuple" = some (is_tuple d) := by
  cases d <;> first | exact kb_none_tuple | exact kb_bool_tuple | exact kb_int_tuple | exact kb_str_tuple | exact kb_list_tuple | exact kb_tuple_tuple | exact kb_dict_tuple
theorem kb_none_list : kitB "NoneType" "list" = some false := by decide +kernel
theorem kb_bool_list : kitB "bool" "list" = some false := by decide +kernel
theorem kb_int_list : kitB "int" "list" = some false := by decide +kernel
theorem kb_str_list : kitB "str" "list" = some false := by decide +kernel
theorem kb_list_list : kitB "list" "list" = some true := by decide +kernel
theorem kb_tuple_list : kitB "tuple" "list" = some false := by decide +kernel
theorem kb_dict_list : kitB "dict" "list" = some false := by decide +kernel
def is_list : D → Bool
  | .list _ => true
  | _ => false
theorem isi_list (d : D) : isiD d "list" = some (is_list d) := by
  cases d <;> first | exact kb_none_list | exact kb_bool_list | exact kb_int_list | exact kb_str_list | exact kb_list_list | exact kb_tuple_list | exact kb_dict_list
abbrev AZ : Str := "abcdefghijklmnopqrstuvwxyz"
def pName : D → Bool
  | .str z => decide (1 ≤ z.length) && (decide (z.length ≤ 8) && z.cps.toList.all fun c => decide (c ∈ AZ.cps.toList))
  | _ => false
theorem sh_int (i : Int) : SeqAt.shaped (.int i) = true := by simp [SeqAt.shaped, PyData.canLay0, PyData.depth]
theorem eq_int (i j : Int) : PyData.eqv (.int i) (.int j) = (i == j) := by simp [PyData.eqv]
theorem gEq_int (i j : Int) : gEq (.int i) (.int j) = some (i == j) := by unfold gEq; rw [if_pos ⟨sh_int i, sh_int j⟩, eq_int]
theorem w_all {x : D} {xs : List D} (h : x ∈ xs) : x.weight + 1 ≤ PyData.weightAll xs := by
  induction xs with
  | nil => cases h
  | cons y ys ih =>
    unfold PyData.weightAll
    rcases List.mem_cons.mp h with rfl | h
    · omega
    · have := ih h; omega
/-! ### the law's own look -/
theorem strOk_of {z : Str} (h : ∀ c ∈ z.cps.toList, c < 1114112) : SeqAt.shaped (.str z) = true := by
  unfold SeqAt.shaped
  rw [Bool.and_eq_true]
  refine ⟨?_, decide_eq_true (by unfold PyData.depth; omega)⟩
  show PyData.strOk z = true
  unfold PyData.strOk
  rw [← Array.all_toList, List.all_eq_true]
  exact fun c hc => decide_eq_true (h c hc)
/-- texts of signs below 128 -/
def asc (z : Str) : Bool := z.cps.toList.all fun c => decide (c < 128)
theorem asc_sh {z : Str} (h : asc z = true) : SeqAt.shaped (.str z) = true := strOk_of fun c hc => by
  have := of_decide_eq_true (List.all_eq_true.mp h c hc)
  omega
theorem canAll {xs : List D} : (∀ x ∈ xs, x.canLay0 = true) → PyData.canLayAll0 xs = true := by
  induction xs with
  | nil => intro _; unfold PyData.canLayAll0; rfl
  | cons y ys ih =>
    intro h
    unfold PyData.canLayAll0
    rw [h y List.mem_cons_self, ih fun x hx => h x (List.mem_cons_of_mem _ hx)]
    rfl
theorem depAll {xs : List D} {n : Nat} : (∀ x ∈ xs, x.depth ≤ n) → PyData.depthAll xs ≤ n := by
  induction xs with
  | nil => intro _; unfold PyData.depthAll; omega
  | cons y ys ih =>
    intro h
    unfold PyData.depthAll
    exact Nat.max_le.mpr ⟨h y List.mem_cons_self, ih fun x hx => h x (List.mem_cons_of_mem _ hx)⟩
theorem sh_list {xs : List D} (h1 : ∀ x ∈ xs, SeqAt.shaped x = true) (h2 : ∀ x ∈ xs, x.depth ≤ 63) : SeqAt.shaped (.list xs) = true := by
  unfold SeqAt.shaped
  rw [Bool.and_eq_true, decide_eq_true_eq]
  have e1 : PyData.canLayAll0 xs = true := canAll fun x hx => (Bool.and_eq_true_iff.mp (show SeqAt.shaped x = true from h1 x hx)).1
  have e2 := depAll h2
  refine ⟨?_, ?_⟩
  · unfold PyData.canLay0; exact e1
  · unfold PyData.depth; omega
/-- names that have come -/
def Nms (acc : List D) : Prop := ∀ x ∈ acc, ∃ z, x = .str z ∧ SeqAt.shaped (.str z) = true
theorem Nms.sh {acc : List D} (h : Nms acc) : SeqAt.shaped (.list acc) = true := sh_list (fun x hx => by obtain ⟨z, rfl, q⟩ := h x hx; exact q) fun x hx => by
  obtain ⟨z, rfl, q⟩ := h x hx
  unfold PyData.depth
  omega
theorem sh_nil : SeqAt.shaped (.list []) = true := by decide +kernel
theorem eqv_nil (acc : List D) : PyData.eqv (.list acc) (.list []) = acc.isEmpty := by
  cases acc <;> simp [PyData.eqv, PyData.eqvAll]
theorem gEq_nil {acc : List D} (h : Nms acc) : gEq (.list acc) (.list []) = some acc.isEmpty := by
  unfold gEq
  rw [if_pos ⟨h.sh, sh_nil⟩, eqv_nil]
/-! ### both looks are one -/
def fresh : List Key → List Key → Bool
  | _, [] => true
  | acc, k :: ks => !memK k acc && fresh (acc ++ [k]) ks
/-- what the law may be told of: small data -/
structure Okd (d : D) : Prop where
  w : d.weight ≤ 300000
  s : SeqAt.shaped d = true
  v : PyData.showable d = true
  h : PyData.hasDict d = false
  l : d.shown.length ≤ sizeLine
theorem gRepr_ok {d : D} (o : Okd d) : gRepr [d] = some (.val (.str d.shown)) := by
  unfold gRepr
  dsimp only
  rw [if_pos ⟨o.v, o.h, SeqAt.depth_of_shaped o.s, o.l⟩]
theorem sh_bool (b : Bool) : SeqAt.shaped (.bool b) = true := by cases b <;> decide +kernel
theorem gEq_bool (a b : Bool) : gEq (.bool a) (.bool b) = some (a == b) := by
  unfold gEq
  rw [if_pos ⟨sh_bool a, sh_bool b⟩]
  simp [PyData.eqv]
theorem gEq_same (z : Str) : gEq (.str z) (.str z) = some true := by
  unfold gEq eqStr
  split
  · simp [PyData.eqv]
  · simp
/-! ### ints worked out -/
theorem gAdd_i (a b : Int) : gAdd (.int a) (.int b) = some (.val (.int (a + b))) := rfl
theorem gSub_i (a b : Int) : M3.gSub (.int a) (.int b) = some (.val (.int (a - b))) := rfl
theorem gMul_i {a b : Int} (h : -18446744073709551616 < b ∧ b < 18446744073709551616) : gMul (.int a) (.int b) = some (.val (.int (a * b))) := by
  show (if CMul a b then some (Out.val (PyData.int (a * b))) else none) = _
  rw [if_pos (.inr (by simpa using h))]
theorem gMod_i {a b : Int} (h : 0 < b) : gMod (.int a) (.int b) = some (.val (.int (a % b))) := by
  show (if 0 < b then some (Out.val (PyData.int (a % b))) else none) = _
  rw [if_pos h]
theorem gDiv_i {a b : Int} (h : 0 < b) (h2 : b.natAbs.log2 < 9000) : gDiv (.int a) (.int b) = some (.val (.int (a / b))) := by
  show (if 0 < b ∧ b.natAbs.log2 < 9000 then some (Out.val (PyData.int (a / b))) else none) = _
  rw [if_pos ⟨h, h2⟩]
theorem lg {b : Int} (h0 : 0 < b) (h : b < 2 ^ 60) : b.natAbs.log2 < 9000 := by
  have h1 : b.natAbs < 2 ^ 60 := by omega
  have : b.natAbs.log2 < 60 := (Nat.log2_lt (by omega)).mpr h1
  omega
/-! ### the state -/
theorem ixN_lt {n : Nat} {k : Int} (h0 : 0 ≤ k) (h : k < n) : ixN n k = some k.toNat := by
  unfold ixN
  rw [if_pos h0, if_pos h]
def S6 : Sm := (sSet 6 (mOp gAdd (oE (mOp gMod (oE (mVar 4)) (oE (mC (.int 2147483629))))) (oE (mOp gMul (oE (mOp gMod (oE (mOp gDiv (oE (mVar 4)) (oE (mC (.int 2147483629))))) (oE (mC (.int 40009))))) (oE (mC (.int 977)))))))
/-! ### short texts of plain signs -/
structure Sh (n : Nat) (z : Str) : Prop where
  a : asc z = true
  l : z.length ≤ n
theorem Sh.mono {n k : Nat} {z : Str} (h : Sh n z) (e : n ≤ k) : Sh k z := ⟨h.a, Nat.le_trans h.l e⟩
theorem asc_iff {z : Str} : asc z = true ↔ ∀ c ∈ z.cps.toList, c < 128 := by
  unfold asc
  rw [List.all_eq_true]
  exact ⟨fun h c hc => of_decide_eq_true (h c hc), fun h c hc => decide_eq_true (h c hc)⟩
theorem Sh.app {n k : Nat} {a b : Str} (ha : Sh n a) (hb : Sh k b) : Sh (n + k) (a ++ b) := by
  refine ⟨asc_iff.mpr fun c hc => ?_, by rw [Str.length_append]; have := ha.l; have := hb.l; omega⟩
  rw [Str.cps_append, Array.toList_append] at hc
  rcases List.mem_append.mp hc with hc | hc
  · exact asc_iff.mp ha.a c hc
  · exact asc_iff.mp hb.a c hc
theorem Sh.cut {n : Nat} {z : Str} (h : Sh n z) (lo hi : Option Int) : Sh n (cutS z lo hi) := by
  refine ⟨asc_iff.mpr fun c hc => ?_, ?_⟩
  · unfold cutS at hc
    have hc' : c ∈ List.take (HT.sIx z.length z.length hi - HT.sIx z.length 0 lo) (List.drop (HT.sIx z.length 0 lo) z.cps.toList) := by simpa using hc
    exact asc_iff.mp h.a c (List.mem_of_mem_drop (List.mem_of_mem_take hc'))
  · have e : (cutS z lo hi).length ≤ z.length := by
      unfold cutS
      show (Array.size _) ≤ z.cps.size
      simp
      omega
    exact Nat.le_trans e h.l
/-- d is a short plain text -/
def Tx (n : Nat) (d : D) : Prop := ∃ z, d = .str z ∧ Sh n z
theorem Tx.mono {n k : Nat} {d : D} (h : Tx n d) (e : n ≤ k) : Tx k d := let ⟨z, e1, s⟩ := h; ⟨z, e1, s.mono e⟩
abbrev fI (i : Int) : Option SV := some (.fro (.int i))
def Wd (d : D) : Prop := d = .none ∨ ∃ i : Int, d = .int i ∧ -1000000000 ≤ i ∧ i ≤ 1000000000
theorem two_le : (2 : Nat) ≤ sizeLine := by rw [sizeLine_eq]; omega
theorem three_le : (3 : Nat) ≤ sizeLine := by rw [sizeLine_eq]; omega
def SM : List D := [.str "table", .str "row", .str "many", .str "store", .str "old", .str "new", .str "put", .str "none", .str "tie", .str "drop", .str "set", .str "do", .str "to"]
theorem rng_get {n i : Nat} {d : D} (h : (rngD 0 n)[i]? = some d) : d = .int (i : Int) ∧ i < n := by
  unfold rngD at h
  rw [List.getElem?_map] at h
  by_cases hi : i < n
  · rw [List.getElem?_range hi] at h
    cases h
    exact ⟨by simp, hi⟩
  · rw [List.getElem?_eq_none (by simpa using hi)] at h
    cases h
def Cl (d : D) : Prop := ∃ a b, d = .tuple [a, b] ∧ Tx 20 a ∧ Wd b
def Tb (d : D) : Prop := ∃ a cols, d = .tuple [a, .tuple cols] ∧ Tx 20 a ∧ cols.length ≤ 6 ∧ ∀ c ∈ cols, Cl c
theorem wd_sh {d : D} (h : Wd d) : SeqAt.shaped d = true ∧ d.depth = 0 := by
  rcases h with rfl | ⟨i, rfl, _⟩
  · exact ⟨by decide +kernel, by unfold PyData.depth; rfl⟩
  · exact ⟨sh_int i, by unfold PyData.depth; rfl⟩
theorem sh_tup {xs : List D} (h1 : ∀ x ∈ xs, SeqAt.shaped x = true) (h2 : ∀ x ∈ xs, x.depth ≤ 63) : SeqAt.shaped (.tuple xs) = true := by
  unfold SeqAt.shaped
  rw [Bool.and_eq_true, decide_eq_true_eq]
  have e1 : PyData.canLayAll0 xs = true := canAll fun x hx => (Bool.and_eq_true_iff.mp (show SeqAt.shaped x = true from h1 x hx)).1
  have e2 := depAll h2
  refine ⟨?_, ?_⟩
  · unfold PyData.canLay0; exact e1
  · unfold PyData.depth; omega
mutual
def lf (N : Int) : D → Bool
  | .none => true
  | .bool _ => true
  | .int i => decide (-N ≤ i) && decide (i ≤ N)
  | .str z => asc z
  | .list xs => lfAll N xs
  | .tuple xs => lfAll N xs
  | .dict _ => false
def lfAll (N : Int) : List D → Bool
  | [] => true
  | x :: xs => lf N x && lfAll N xs
end
theorem lfAll_of {N : Int} : ∀ {xs : List D}, (∀ x ∈ xs, lf N x = true) → lfAll N xs = true
  | [], _ => by unfold lfAll; rfl
  | y :: ys, h => by
    unfold lfAll
    rw [h y List.mem_cons_self, lfAll_of fun x hx => h x (List.mem_cons_of_mem _ hx)]
    rfl
theorem log_lt {i : Int} (h : i.natAbs < 10 ^ 40) : i.natAbs.log2 < 140 := by
  by_cases h0 : i.natAbs = 0
  · rw [h0]; decide
  · exact (Nat.log2_lt h0).mpr (Nat.lt_trans h (by decide))
theorem shown_int_len {i : Int} (h : i.natAbs < 10 ^ 40) : (PyData.shown (.int i)).length ≤ 41 := by
  have := int_text_length_le10 (k := 40) (by omega) h
  unfold PyData.shown
  show (Str.ofString (toString i)).length ≤ 41
  rw [PySem.ofString_length]
  exact this
mutual
theorem lf_lay {N : Int} (hN : N < 10 ^ 40) : ∀ d : D, lf N d = true → d.canLay0 = true ∧ PyData.showable d = true ∧ PyData.hasDict d = false ∧ PyData.leavesShort 41 d = true
  | .none, _ => by simp [PyData.canLay0, PyData.showable, PyData.hasDict, PyData.leavesShort]
  | .bool _, _ => by simp [PyData.canLay0, PyData.showable, PyData.hasDict, PyData.leavesShort]
  | .int i, h => by
    unfold lf at h
    rw [Bool.and_eq_true, decide_eq_true_eq, decide_eq_true_eq] at h
    have hn : i.natAbs < 10 ^ 40 := by omega
    have h1 := log_lt hn
    have h2 := shown_int_len hn
    simp [PyData.canLay0, PyData.showable, PyData.hasDict, PyData.leavesShort, h2]
    omega
  | .str z, h => by
    have ha : asc z = true := by unfold lf at h; exact h
    have hc := asc_iff.mp ha
    have h1 : PyData.canLay0 (.str z) = true := (Bool.and_eq_true_iff.mp (show SeqAt.shaped (.str z) = true from asc_sh ha)).1
    refine ⟨h1, by simp [PyData.showable], by simp [PyData.hasDict], ?_⟩
    unfold PyData.leavesShort
    rw [List.all_eq_true]
    intro c hx
    have := hc c hx
    exact decide_eq_true (by omega)
  | .list xs, h => by
    have := lf_layAll hN xs (by unfold lf at h; exact h)
    simp only [PyData.canLay0, PyData.showable, PyData.hasDict, PyData.leavesShort]
    exact this
  | .tuple xs, h => by
    have := lf_layAll hN xs (by unfold lf at h; exact h)
    simp only [PyData.canLay0, PyData.showable, PyData.hasDict, PyData.leavesShort]
    exact this
  | .dict _, h => by unfold lf at h; cases h
theorem lf_layAll {N : Int} (hN : N < 10 ^ 40) : ∀ xs : List D, lfAll N xs = true → PyData.canLayAll0 xs = true ∧ PyData.showableAll xs = true ∧ PyData.hasDictAll xs = false ∧ PyData.leavesShortAll 41 xs = true
  | [], _ => by simp [PyData.canLayAll0, PyData.showableAll, PyData.hasDictAll, PyData.leavesShortAll]
  | x :: xs, h => by
    unfold lfAll at h
    rw [Bool.and_eq_true] at h
    obtain ⟨a1, a2, a3, a4⟩ := lf_lay hN x h.1
    obtain ⟨b1, b2, b3, b4⟩ := lf_layAll hN xs h.2
    simp [PyData.canLayAll0, PyData.showableAll, PyData.hasDictAll, PyData.leavesShortAll, a1, a2, a3, a4, b1, b2, b3, b4]
end
structure Fi (N : Int) (W k : Nat) (d : D) : Prop where
  l : lf N d = true
  w : d.weight ≤ W
  p : d.depth ≤ k
structure FL (N : Int) (W k : Nat) (xs : List D) : Prop where
  l : ∀ x ∈ xs, lf N x = true
  w : PyData.weightAll xs ≤ W
  p : ∀ x ∈ xs, x.depth ≤ k
theorem Fi.okd {N : Int} {W k : Nat} {d : D} (h : Fi N W k d) (hN : N < 10 ^ 40) (hW : W ≤ 300000) (hk : k ≤ 64) : Okd d := by
  obtain ⟨a1, a2, a3, a4⟩ := lf_lay hN d h.l
  have hp := h.p
  have hw := h.w
  refine ⟨by omega, ?_, a2, a3, ?_⟩
  · unfold SeqAt.shaped
    rw [a1, Bool.true_and]
    exact decide_eq_true (by omega)
  · have := PyData.shown_le 41 (by omega) d a4
    rw [sizeLine_eq]
    omega
theorem FL.lst {N : Int} {W k : Nat} {xs : List D} (h : FL N W k xs) : Fi N W (k + 1) (.list xs) :=
  ⟨by unfold lf; exact lfAll_of h.l, by unfold PyData.weight; exact h.w, by unfold PyData.depth; have := depAll h.p; omega⟩
theorem FL.tup {N : Int} {W k : Nat} {xs : List D} (h : FL N W k xs) : Fi N W (k + 1) (.tuple xs) :=
  ⟨by unfold lf; exact lfAll_of h.l, by unfold PyData.weight; exact h.w, by unfold PyData.depth; have := depAll h.p; omega⟩
theorem FL.mem {N : Int} {W k : Nat} {xs : List D} (h : FL N W k xs) {x : D} (hx : x ∈ xs) : Fi N W k x := ⟨h.l x hx, by have := w_all hx; have := h.w; omega, h.p x hx⟩
theorem wA_cons (x : D) (xs : List D) : PyData.weightAll (x :: xs) = x.weight + 1 + PyData.weightAll xs := by
  conv => lhs; unfold PyData.weightAll
theorem wA_app (a b : List D) : PyData.weightAll (a ++ b) = PyData.weightAll a + PyData.weightAll b := by
  induction a with
  | nil => simp [PyData.weightAll]
  | cons x xs ih => rw [List.cons_append, wA_cons, wA_cons, ih]; omega
theorem FL.app {N : Int} {W V k : Nat} {a b : List D} (ha : FL N W k a) (hb : FL N V k b) : FL N (W + V) k (a ++ b) :=
  ⟨fun x hx => (List.mem_append.mp hx).elim (ha.l x) (hb.l x), by rw [wA_app]; have := ha.w; have := hb.w; omega, fun x hx => (List.mem_append.mp hx).elim (ha.p x) (hb.p x)⟩
theorem wA_sub {a b : List D} (h : b.Sublist a) : PyData.weightAll b ≤ PyData.weightAll a := by
  induction h with
  | slnil => exact Nat.le_refl _
  | cons x _ ih => rw [wA_cons]; omega
  | cons_cons x _ ih => rw [wA_cons, wA_cons]; omega
theorem FL.sub {N : Int} {W k : Nat} {a b : List D} (ha : FL N W k a) (h : b.Sublist a) : FL N W k b :=
  ⟨fun x hx => ha.l x (h.subset hx), Nat.le_trans (wA_sub h) ha.w, fun x hx => ha.p x (h.subset hx)⟩
theorem FL.mono {N M : Int} {W V k j : Nat} {a : List D} (h : FL N W k a) (hN : ∀ x, lf N x = true → lf M x = true) (hW : W ≤ V) (hk : k ≤ j) : FL M V j a := ⟨fun x hx => hN x (h.l x hx), Nat.le_trans h.w hW, fun x hx => Nat.le_trans (h.p x hx) hk⟩
mutual
theorem lf_mono {N M : Int} (h : N ≤ M) : ∀ d : D, lf N d = true → lf M d = true
  | .none, _ => by unfold lf; rfl
  | .bool _, _ => by unfold lf; rfl
  | .int i, q => by unfold lf at q ⊢; simp at q ⊢; omega
  | .str z, q => by unfold lf at q ⊢; exact q
  | .list xs, q => by unfold lf at q ⊢; exact lfAll_mono h xs q
  | .tuple xs, q => by unfold lf at q ⊢; exact lfAll_mono h xs q
  | .dict _, q => by unfold lf at q; cases q
theorem lfAll_mono {N M : Int} (h : N ≤ M) : ∀ xs : List D, lfAll N xs = true → lfAll M xs = true
  | [], _ => by unfold lfAll; rfl
  | x :: xs, q => by
    unfold lfAll at q ⊢
    rw [Bool.and_eq_true] at q ⊢
    exact ⟨lf_mono h x q.1, lfAll_mono h xs q.2⟩
end
theorem Fi.mono {N M : Int} {W V k j : Nat} {d : D} (h : Fi N W k d) (hN : N ≤ M) (hW : W ≤ V) (hk : k ≤ j) : Fi M V j d := ⟨lf_mono hN d h.l, Nat.le_trans h.w hW, Nat.le_trans h.p hk⟩
theorem FL.one {N : Int} {W k : Nat} {d : D} (h : Fi N W k d) : FL N (W + 1) k [d] := ⟨fun x hx => by rw [List.mem_singleton.mp hx]; exact h.l, by simp [PyData.weightAll]; exact h.w, fun x hx => by rw [List.mem_singleton.mp hx]; exact h.p⟩
theorem FL.set {N : Int} {W V k : Nat} {a : List D} {d : D} (h : FL N W k a) (hd : Fi N V k d) (i : Nat) : FL N (W + V) k (a.set i d) := by
  refine ⟨fun x hx => ?_, ?_, fun x hx => ?_⟩
  · rcases List.mem_or_eq_of_mem_set hx with hx | rfl
    · exact h.l x hx
    · exact hd.l
  · have : ∀ (a : List D) (i : Nat), PyData.weightAll (a.set i d) ≤ PyData.weightAll a + d.weight := by
      intro a
      induction a with
      | nil => intro i; simp [PyData.weightAll]
      | cons x xs ih =>
        intro i
        cases i with
        | zero => rw [List.set_cons_zero]; unfold PyData.weightAll; omega
        | succ i => rw [List.set_cons_succ]; unfold PyData.weightAll; have := ih i; omega
    have := this a i
    have := h.w
    have := hd.w
    omega
  · rcases List.mem_or_eq_of_mem_set hx with hx | rfl
    · exact h.p x hx
    · exact hd.p
theorem bl (n : Nat) (h : n ≤ 1000000) : n ≤ sizeLine := by rw [sizeLine_eq]; omega
abbrev MM : Int := 1000000001
theorem fi_str {z : Str} {N : Int} {W : Nat} (h : asc z = true) (hl : z.length ≤ W) : Fi N W 0 (.str z) :=
  ⟨by unfold lf; exact h, by unfold PyData.weight; exact hl, by unfold PyData.depth; omega⟩
theorem gSl_l (ds : List D) (lo hi : Option Int) : gSl (.list ds) lo hi = some (.newl (cutD ds lo hi)) := rfl
theorem w_int62 {i : Int} (h : i.natAbs < 2 ^ 62) : (PyData.int i).weight ≤ 62 := by
  have hl : i.natAbs.log2 < 62 := by
    by_cases h0 : i.natAbs = 0
    · rw [h0]; decide
    · exact (Nat.log2_lt h0).mpr h
  unfold PyData.weight
  split <;> omega
theorem wd_fi {d : D} (h : Wd d) : Fi MM 62 0 d := by
  rcases h with rfl | ⟨i, rfl, h1, h2⟩
  · exact ⟨by unfold lf; rfl, by decide +kernel, by decide +kernel⟩
  · exact ⟨by unfold lf; simp; have : MM = 1000000001 := rfl; omega, w_int62 (by omega), by unfold PyData.depth; omega⟩
theorem tx_fi {n : Nat} {d : D} (h : Tx n d) : Fi MM n 0 d := by
  obtain ⟨z, rfl, s⟩ := h
  exact fi_str s.a s.l
theorem fl_all {N : Int} {W k : Nat} : ∀ {xs : List D}, (∀ x ∈ xs, Fi N W k x) → FL N (xs.length * (W + 1)) k xs
  | [], _ => ⟨(fun _ h => by cases h), by simp [PyData.weightAll], (fun _ h => by cases h)⟩
  | x :: xs, h => by
    have f := (FL.one (h x List.mem_cons_self)).app (fl_all fun y hy => h y (List.mem_cons_of_mem _ hy))
    have e : (x :: xs).length * (W + 1) = (W + 1) + xs.length * (W + 1) := by rw [List.length_cons, Nat.add_mul, Nat.one_mul]; omega
    rw [e]
    exact f
theorem cl_fi {d : D} (h : Cl d) : Fi MM 84 1 d := by
  obtain ⟨a, b, rfl, ha, hb⟩ := h
  exact (((FL.one (tx_fi ha)).app (FL.one (wd_fi hb))).tup).mono (Int.le_refl _) (by omega) (by omega)
theorem tb_fi {d : D} (h : Tb d) : Fi MM 532 3 d := by
  obtain ⟨a, cols, rfl, ha, hl, hc⟩ := h
  have f1 : Fi MM 510 2 (.tuple cols) := ((fl_all fun x hx => cl_fi (hc x hx)).tup).mono (Int.le_refl _) (by have := Nat.mul_le_mul_right (84 + 1) hl; omega) (by omega)
  have f2 : Fi MM 20 2 a := (tx_fi ha).mono (Int.le_refl _) (by omega) (by omega)
  exact (((FL.one f2).app (FL.one f1)).tup).mono (Int.le_refl _) (by omega) (by omega)
theorem ts_fi {ts : List D} (h : ∀ x ∈ ts, Tb x) (hl : ts.length ≤ 7) : Fi MM 3731 4 (.tuple ts) :=
  ((fl_all fun x hx => tb_fi (h x hx)).tup).mono (Int.le_refl _) (by have := Nat.mul_le_mul_right (532 + 1) hl; omega) (by omega)
def hd0 : D → D
  | .tuple (a :: _) => a
  | _ => .none
end M4

namespace M5
open PySem PySem.Spec L2 M3 M4
open PyProof.Rows hiding St
def B_is_tuple_of : Sm := (sRet (mAndV (oE (mIsi "tuple" (oE (mVar 0)))) (mOp (bo gEq) (oE (mCallB gLen (msCons (oE (mVar 0)) msNil))) (oE (mVar 1)))))
def F_is_tuple_of : M RV := fnF [0, 1] 2 (B_is_tuple_of)
def B_table_place : Sm := (sSeq (sFor (mEnum (dsCons (fE (oE (mVar 0))) dsNil)) (.tp [(.nm 2), (.tp [(.nm 3), (.nm 4)])]) (sIf (mBl (mOp (bo gEq) (oE (mVar 3)) (oE (mVar 1)))) (sRet (mVar 2)) sNext))
    sBad)
def F_table_place : M RV := fnF [0, 1] 5 (B_table_place)
def B_columns_of : Sm := (sRet (mOp gIx (oE (mOp gIx (oE (mVar 0)) (oE (mCall 2 F_table_place (msCons (oE (mVar 0)) (msCons (oE (mVar 1)) msNil)))))) (oE (mC (.int 1)))))
def F_columns_of : M RV := fnF [0, 1] 2 (B_columns_of)
def B_law_take : Sm := (sSeq (sSet 2 (mOp gAdd (oE (mStTurn 0)) (oE (mC (.int 1)))))
    (sSeq (sStTurn 0 (oE (mVar 2)))
    (sSeq (sSet 3 (mOp gMod (oE (mVar 2)) (oE (mStLen 0))))
    (sSeq (sSet 4 (mStCell 0 3))
    (sSeq (sIf (mBl (mOp (bo gGe) (oE (mVar 4)) (oE (mOp gPow (oE (mC (.int 10))) (oE (mC (.int 18))))))) (sSeq (sStPut 0 5 3 (oE (mVar 4)) (oE (mVar 1)))
    (sRet (mVar 5))) sNext)
    (sSeq (sSet 6 (mOp gAdd (oE (mOp gMod (oE (mVar 4)) (oE (mC (.int 2147483629))))) (oE (mOp gMul (oE (mOp gMod (oE (mOp gDiv (oE (mVar 4)) (oE (mC (.int 2147483629))))) (oE (mC (.int 40009))))) (oE (mC (.int 977)))))))
    (sSeq (sSet 7 (mOp gMod (oE (mOp gMul (oE (mOp gAdd (oE (mOp gAdd (oE (mVar 6)) (oE (mOp gMul (oE (mOp gMul (oE (mVar 2)) (oE (mVar 2)))) (oE (mC (.int 6007))))))) (oE (mC (.int 29))))) (oE (mC (.int 48271))))) (oE (mC (.int 2147483647)))))
    (sSeq (sSet 7 (mOp gMod (oE (mOp gMul (oE (mVar 7)) (oE (mVar 7)))) (oE (mC (.int 2147483579)))))
    (sRet (mOp gMod (oE (mOp gDiv (oE (mOp gMod (oE (mOp gMul (oE (mOp gAdd (oE (mVar 7)) (oE (mOp gMul (oE (mVar 2)) (oE (mC (.int 103049))))))) (oE (mC (.int 69621))))) (oE (mC (.int 2147483629))))) (oE (mC (.int 64))))) (oE (mVar 1))))))))))))
def F_law_take : M RV := fnF [0, 1] 8 (B_law_take)
def B_law_some : Sm := (sRet (mOp gIx (oE (mVar 1)) (oE (mCall 2 F_law_take (msCons (oE (mVar 0)) (msCons (oE (mCallB gLen (msCons (oE (mVar 1)) msNil))) msNil))))))
def F_law_some : M RV := fnF [0, 1] 2 (B_law_some)
def B_law_names : Sm := (sSeq (sUnp (fE (oE (mTup (dsCons (fE (oE (mC (.str "abcdefghijklmnopqrstuvwxyz")))) (dsCons (fE (oE (mCall 2 F_law_take (msCons (oE (mVar 0)) (msCons (oE (mC (.int 26))) msNil))))) (dsCons (fE (oE (mCall 2 F_law_take (msCons (oE (mVar 0)) (msCons (oE (mC (.int 4))) msNil))))) dsNil)))))) (.tp [(.nm 2), (.nm 3), (.nm 4)]))
    (sSeq (sSet 5 (mBM gJoin (oE (mC (.str ""))) (msCons (oE (mLc (mRng1 (msCons (oE (mCall 2 F_law_take (msCons (oE (mVar 0)) (msCons (oE (mC (.int 8))) msNil)))) msNil)) (.nm 6) [6] mYes (fE (oE (mOp gIx (oE (mVar 2)) (oE (mCall 2 F_law_take (msCons (oE (mVar 0)) (msCons (oE (mC (.int 26))) msNil))))))))) msNil)))
    (sSeq (sPar [7, 8, 9] (msCons (mCall 2 F_law_take (msCons (oE (mVar 0)) (msCons (oE (mOp gAdd (oE (mCallB gLen (msCons (oE (mVar 5)) msNil))) (oE (mC (.int 1))))) msNil))) (msCons (mOp gIx (oE (mLst (dsCons (fE (oE (mC (.int 3)))) (dsCons (fE (oE (mC (.int 5)))) (dsCons (fE (oE (mC (.int 25)))) dsNil))))) (oE (mCall 2 F_law_take (msCons (oE (mVar 0)) (msCons (oE (mC (.int 3))) msNil))))) (msCons (mCall 2 F_law_take (msCons (oE (mVar 0)) (msCons (oE (mC (.int 2))) msNil))) msNil))))
    (sSeq (sPar [10, 11] (msCons (mLst dsNil) (msCons (mLst (dsCons (fE (oE (mC (.str "table")))) (dsCons (fE (oE (mC (.str "row")))) (dsCons (fE (oE (mC (.str "many")))) (dsCons (fE (oE (mC (.str "store")))) (dsCons (fE (oE (mC (.str "old")))) (dsCons (fE (oE (mC (.str "new")))) (dsCons (fE (oE (mC (.str "put")))) (dsCons (fE (oE (mC (.str "none")))) (dsCons (fE (oE (mC (.str "tie")))) (dsCons (fE (oE (mC (.str "drop")))) (dsCons (fE (oE (mC (.str "set")))) (dsCons (fE (oE (mC (.str "do")))) (dsCons (fE (oE (mC (.str "to")))) dsNil)))))))))))))) msNil)))
    (sSeq (sFor (mRng1 (msCons (oE (mVar 1)) msNil)) (.nm 12) (sSeq (sSet 13 (mOp gAdd (oE (mSl gSl (oE (mVar 5)) mNoPart (mPart (oE (mVar 7))))) (oE (mOp gIx (oE (mVar 2)) (oE (mOp gMod (oE (mOp gAdd (oE (mVar 3)) (oE (mOp gMul (oE (mVar 8)) (oE (mVar 12)))))) (oE (mC (.int 26)))))))))
    (sAppend 10 (fE (oE (mOp gAdd (oE (mVar 13)) (oE (mOp gIx (oE (mLst (dsCons (fE (oE (mSl gSl (oE (mVar 5)) (mPart (oE (mVar 7))) mNoPart))) (dsCons (fE (oE (mSl gSl (oE (mSl gSl (oE (mVar 5)) (mPart (oE (mVar 7))) mNoPart)) mNoPart (mPart (oE (mOp gMod (oE (mVar 12)) (oE (mC (.int 3))))))))) dsNil)))) (oE (mVar 9))))))))))
    (sSeq (sSet 14 (mCallB gList (msCons (oE (mVar 10)) msNil)))
    (sSeq (sFor (mRng1 (msCons (oE (mOp gMul (oE (mCallB gMin (msCons (oE (mVar 1)) (msCons (oE (mC (.int 13))) msNil)))) (oE (mCallB gInt (msCons (oE (mOp (bo gEq) (oE (mVar 4)) (oE (mC (.int 0))))) msNil))))) msNil)) (.nm 12) (sSeq (sSet 15 (mOp gIx (oE (mVar 11)) (oE (mOp gMod (oE (mOp gAdd (oE (mVar 3)) (oE (mVar 12)))) (oE (mC (.int 13)))))))
    (sIf (mAnd (mBl (mOp (bo gNotIn) (oE (mVar 15)) (oE (mVar 10)))) (mBl (mOp (bo gEq) (oE (mCall 2 F_law_take (msCons (oE (mVar 0)) (msCons (oE (mC (.int 2))) msNil)))) (oE (mC (.int 0)))))) (sSetItem 14 (oE (mVar 12)) (fE (oE (mVar 15)))) sNext)))
    (sRet (mVar 14)))))))))
def F_law_names : M RV := fnF [0, 1] 16 (B_law_names)
def B_law_worth : Sm := (sSeq (sSet 1 (mCall 2 F_law_take (msCons (oE (mVar 0)) (msCons (oE (mC (.int 8))) msNil))))
    (sSeq (sIf (mBl (mOp (bo gLt) (oE (mVar 1)) (oE (mC (.int 2))))) (sRet (mOp gIx (oE (mLst (dsCons (fE (oE (mC .none))) (dsCons (fE (oE (mC (.int 0)))) dsNil)))) (oE (mVar 1)))) sNext)
    (sSeq (sIf (mBl (mOp (bo gLt) (oE (mVar 1)) (oE (mC (.int 6))))) (sRet (mOp M3.gSub (oE (mCall 2 F_law_take (msCons (oE (mVar 0)) (msCons (oE (mC (.int 9))) msNil)))) (oE (mC (.int 4))))) sNext)
    (sRet (mOp gIx (oE (mLst (dsCons (fE (oE (mOp M3.gSub (oE (mCall 2 F_law_take (msCons (oE (mVar 0)) (msCons (oE (mOp gAdd (oE (mOp gMul (oE (mC (.int 2))) (oE (mOp gPow (oE (mC (.int 10))) (oE (mC (.int 9))))))) (oE (mC (.int 1))))) msNil)))) (oE (mOp gPow (oE (mC (.int 10))) (oE (mC (.int 9)))))))) (dsCons (fE (oE (mOp M3.gSub (oE (mOp gPow (oE (mC (.int 10))) (oE (mC (.int 9))))) (oE (mOp gMul (oE (mOp gMul (oE (mC (.int 2))) (oE (mOp gPow (oE (mC (.int 10))) (oE (mC (.int 9))))))) (oE (mCall 2 F_law_take (msCons (oE (mVar 0)) (msCons (oE (mC (.int 2))) msNil))))))))) dsNil)))) (oE (mOp M3.gSub (oE (mVar 1)) (oE (mC (.int 6))))))))))
def F_law_worth : M RV := fnF [0] 2 (B_law_worth)
def B_law_tables : Sm := (sSeq (sSet 3 (mLst dsNil))
    (sSeq (sFor (mIt (fE (oE (mCall 2 F_law_names (msCons (oE (mVar 0)) (msCons (oE (mVar 1)) msNil)))))) (.nm 4) (sSeq (sSet 5 (mLst dsNil))
    (sSeq (sFor (mIt (fE (oE (mCall 2 F_law_names (msCons (oE (mVar 0)) (msCons (oE (mOp gAdd (oE (mC (.int 1))) (oE (mCall 2 F_law_take (msCons (oE (mVar 0)) (msCons (oE (mVar 2)) msNil)))))) msNil)))))) (.nm 6) (sAppend 5 (fE (oE (mTup (dsCons (fE (oE (mVar 6))) (dsCons (fE (oE (mIfE (mBl (mOp (bo gNe) (oE (mVar 5)) (oE (mLst dsNil)))) (mCall 1 F_law_worth (msCons (oE (mVar 0)) msNil)) (mC .none)))) dsNil)))))))
    (sAppend 3 (fE (oE (mTup (dsCons (fE (oE (mVar 4))) (dsCons (fE (oE (mCallB gTuple (msCons (oE (mVar 5)) msNil)))) dsNil)))))))))
    (sRet (mCallB gTuple (msCons (oE (mVar 3)) msNil)))))
def F_law_tables : M RV := fnF [0, 1, 2] 7 (B_law_tables)
def B_law_ties : Sm := (sSeq (sSet 3 (mLst dsNil))
    (sSeq (sFor (mIt (fE (oE (mCall 2 F_law_names (msCons (oE (mVar 0)) (msCons (oE (mVar 2)) msNil)))))) (.nm 4) (sSeq (sUnp (fE (oE (mCall 2 F_law_some (msCons (oE (mVar 0)) (msCons (oE (mVar 1)) msNil))))) (.tp [(.nm 5), (.nm 6)]))
    (sSeq (sPar [7, 8] (msCons (mCall 2 F_law_take (msCons (oE (mVar 0)) (msCons (oE (mCallB gLen (msCons (oE (mVar 6)) msNil))) msNil))) (msCons (mOp gIx (oE (mCall 2 F_law_some (msCons (oE (mVar 0)) (msCons (oE (mVar 1)) msNil)))) (oE (mC (.int 0)))) msNil)))
    (sSeq (sSet 9 (mOp gAdd (oE (mLst (dsCons (fE (oE (mC (.str "bar")))) (dsCons (fE (oE (mC (.str "carry")))) (dsCons (fE (oE (mC (.str "look")))) dsNil))))) (oE (mOp gMul (oE (mLst (dsCons (fE (oE (mC (.str "empty")))) (dsCons (fE (oE (mC (.str "fallback")))) dsNil)))) (oE (mCallB gInt (msCons (oE (mOp (bo gGt) (oE (mVar 7)) (oE (mC (.int 0))))) msNil)))))))
    (sSeq (sPar [10, 11, 12] (msCons (mCall 2 F_law_some (msCons (oE (mVar 0)) (msCons (oE (mVar 9)) msNil))) (msCons (mCall 2 F_law_some (msCons (oE (mVar 0)) (msCons (oE (mVar 9)) msNil))) (msCons (mOp gIx (oE (mLst (dsCons (fE (oE (mC (.str "once")))) (dsCons (fE (oE (mC (.str "end")))) dsNil)))) (oE (mCall 2 F_law_take (msCons (oE (mVar 0)) (msCons (oE (mC (.int 2))) msNil))))) msNil))))
    (sAppend 3 (fE (oE (mTup (dsCons (fE (oE (mVar 4))) (dsCons (fE (oE (mVar 5))) (dsCons (fE (oE (mOp gIx (oE (mOp gIx (oE (mVar 6)) (oE (mVar 7)))) (oE (mC (.int 0)))))) (dsCons (fE (oE (mVar 8))) (dsCons (fE (oE (mVar 10))) (dsCons (fE (oE (mVar 11))) (dsCons (fE (oE (mVar 12))) dsNil))))))))))))))))
    (sRet (mCallB gTuple (msCons (oE (mVar 3)) msNil)))))
def F_law_ties : M RV := fnF [0, 1, 2] 13 (B_law_ties)
end M5

namespace M5
open PySem PySem.Spec L2 M3 M4
open PyProof.Rows hiding St
end M5

namespace M5
open PySem PySem.Spec L2 M3 M4
open PyProof.Rows hiding St
/-! ### texts as lists of signs -/
def sL (l : List Nat) : Str := ⟨l.toArray⟩
def dL (l : List Nat) : D := .str (sL l)
theorem sL_list (l : List Nat) : (sL l).cps.toList = l := by unfold sL; simp
theorem sL_len (l : List Nat) : (sL l).length = l.length := by unfold sL; show Array.size _ = _; simp
theorem sL_inj {a b : List Nat} (h : sL a = sL b) : a = b := by rw [← sL_list a, h, sL_list]
theorem sL_app (a b : List Nat) : sL a ++ sL b = sL (a ++ b) := by
  show (⟨_⟩ : Str) = ⟨_⟩
  congr 1
  simp [sL]
theorem az_is : AZ = sL ((List.range 26).map (97 + ·)) := by decide +kernel
theorem gAdd_L {a b : List Nat} (h : a.length + b.length ≤ 1000000) : gAdd (dL a) (dL b) = some (.val (dL (a ++ b))) := by
  show (if (sL a).length + (sL b).length ≤ sizeLine then some (Out.val (PyData.str (sL a ++ sL b))) else none) = _
  rw [sL_len, sL_len, sizeLine_eq, if_pos (by omega), sL_app]
  rfl
theorem gIx_L {a : List Nat} (h : a.length ≤ 1000000) {k : Int} (h0 : 0 ≤ k) {c : Nat} (hc : a[k.toNat]? = some c) : gIx (dL a) (.int k) = some (.val (dL [c])) := by
  have hl : k.toNat < a.length := by
    rcases Nat.lt_or_ge k.toNat a.length with q | q
    · exact q
    · rw [List.getElem?_eq_none q] at hc; cases hc
  show (if (sL a).length ≤ sizeLine then (atI (sL a).cps.toList k).map _ else none) = _
  rw [sL_len, sizeLine_eq, if_pos (by omega), sL_list]
  unfold L2.atI
  rw [ixN_lt h0 (by omega)]
  show (a[k.toNat]?).map _ = _
  rw [hc]
  rfl
theorem gIx_AZ {k : Int} (h0 : 0 ≤ k) (h1 : k < 26) : gIx (.str AZ) (.int k) = some (.val (dL [97 + k.toNat])) := by
  have e : (PyData.str AZ) = dL ((List.range 26).map (97 + ·)) := by rw [az_is]; rfl
  rw [e]
  refine gIx_L (by simp) h0 ?_
  rw [List.getElem?_map, List.getElem?_range (by omega)]
  rfl
theorem join_L : ∀ cs : List Nat, Str.join "" (cs.map fun c => sL [c]) = sL cs
  | [] => by decide +kernel
  | [c] => rfl
  | c :: d :: r => by
    have ih := join_L (d :: r)
    have e : Str.join "" (sL [c] :: sL [d] :: r.map fun c => sL [c]) = sL [c] ++ "" ++ Str.join "" (sL [d] :: r.map fun c => sL [c]) := rfl
    have e0 : ("" : Str) = sL [] := by decide +kernel
    rw [List.map_cons, List.map_cons, e]
    rw [List.map_cons] at ih
    rw [ih, e0, sL_app, sL_app]
    rfl
theorem strsD_L : ∀ cs : List Nat, strsD (cs.map fun c => dL [c]) = some (cs.map fun c => sL [c])
  | [] => rfl
  | c :: r => by
    show (strsD (r.map fun c => dL [c])).map _ = _
    rw [strsD_L r]; rfl
theorem gJoin_L {cs : List Nat} (h : cs.length ≤ 1000) : gJoin (.str "") [.list (cs.map fun c => dL [c])] = some (.val (dL cs)) := by
  show (strsD _).bind _ = _
  rw [strsD_L]
  have h0 : ("" : Str).length = 0 := by decide +kernel
  have hs : ((cs.map fun c => sL [c]).map (·.length)).sum = cs.length := by
    induction cs with
    | nil => rfl
    | cons c r ih => rw [List.map_cons, List.map_cons, List.sum_cons, ih (by rw [List.length_cons] at h; omega), sL_len, List.length_cons]; simp; omega
  show (if ((cs.map fun c => sL [c]).map (·.length)).sum + (cs.map fun c => sL [c]).length * ("" : Str).length ≤ 16777216 then _ else none) = _
  rw [hs, h0, if_pos (by omega)]
  have e : Txt.join "" (cs.map fun c => sL [c]) = Str.join "" (cs.map fun c => sL [c]) := StrLaws.glued_eq_join _ _
  rw [e, join_L]
  rfl
/-- a name -/
structure Gn (l : List Nat) : Prop where
  p : 1 ≤ l.length
  u : l.length ≤ 8
  c : ∀ x ∈ l, 97 ≤ x ∧ x ≤ 122
theorem Gn.sh {l : List Nat} (h : Gn l) : Sh 8 (sL l) := ⟨asc_iff.mpr fun c hc => by rw [sL_list] at hc; have := h.c c hc; omega, by rw [sL_len]; exact h.u⟩
theorem Gn.tx {l : List Nat} (h : Gn l) : Tx 20 (dL l) := ⟨_, rfl, h.sh.mono (by omega)⟩
theorem Gn.shd {l : List Nat} (h : Gn l) : SeqAt.shaped (dL l) = true := asc_sh h.sh.a
theorem Gn.name {l : List Nat} (h : Gn l) : pName (dL l) = true := by
  show (decide (1 ≤ (sL l).length) && (decide ((sL l).length ≤ 8) && (sL l).cps.toList.all fun c => decide (c ∈ AZ.cps.toList))) = true
  rw [sL_len, sL_list, decide_eq_true h.p, decide_eq_true h.u, Bool.true_and, Bool.true_and, List.all_eq_true]
  intro c hc
  have := h.c c hc
  rw [decide_eq_true_iff, az_is, sL_list, List.mem_map]
  exact ⟨c - 97, List.mem_range.mpr (by omega), by omega⟩
theorem eqv_str (y z : Str) : PyData.eqv (.str y) (.str z) = (y == z) := by simp [PyData.eqv]
theorem eqv_L (a b : List Nat) : PyData.eqv (dL a) (dL b) = decide (a = b) := by
  have : PyData.eqv (dL a) (dL b) = (sL a == sL b) := eqv_str (sL a) (sL b)
  rw [this, Bool.eq_iff_iff, beq_iff_eq, decide_eq_true_iff]
  exact ⟨sL_inj, fun h => by rw [h]⟩
/-! ### the law's names -/
end M5

namespace M5
open PySem PySem.Spec L2 M3 M4
open PyProof.Rows hiding St
theorem three_le : (3 : Nat) ≤ sizeLine := by rw [sizeLine_eq]; omega
end M5

namespace M5
open PySem PySem.Spec L2 M3 M4
open PyProof.Rows hiding St
end M5

namespace M5
open PySem PySem.Spec L2 M3 M4
open PyProof.Rows hiding St
/-! ### tables, typed -/
abbrev TC := List Nat × D
abbrev TT := List Nat × List TC
def colD (c : TC) : D := .tuple [dL c.1, c.2]
def tblD (t : TT) : D := .tuple [dL t.1, .tuple (t.2.map colD)]
structure GoodC (cols : List TC) : Prop where
  ne : cols ≠ []
  l : cols.length ≤ 5
  nd : (cols.map (·.1)).Nodup
  g : ∀ c ∈ cols, Gn c.1 ∧ Wd c.2
  h : ∀ c r, cols = c :: r → c.2 = .none
structure GoodT (ts : List TT) : Prop where
  nd : (ts.map (·.1)).Nodup
  g : ∀ t ∈ ts, Gn t.1 ∧ GoodC t.2
theorem col_cl {c : TC} (h : Gn c.1 ∧ Wd c.2) : Cl (colD c) := ⟨dL c.1, c.2, rfl, h.1.tx, h.2⟩
def Tb_1 : Sm := (sSet 3 (mLst dsNil))
def Tb_2 : Sm := (sFor (mIt (fE (oE (mCall 2 F_law_names (msCons (oE (mVar 0)) (msCons (oE (mVar 1)) msNil)))))) (.nm 4) (sSeq (sSet 5 (mLst dsNil))
    (sSeq (sFor (mIt (fE (oE (mCall 2 F_law_names (msCons (oE (mVar 0)) (msCons (oE (mOp gAdd (oE (mC (.int 1))) (oE (mCall 2 F_law_take (msCons (oE (mVar 0)) (msCons (oE (mVar 2)) msNil)))))) msNil)))))) (.nm 6) (sAppend 5 (fE (oE (mTup (dsCons (fE (oE (mVar 6))) (dsCons (fE (oE (mIfE (mBl (mOp (bo gNe) (oE (mVar 5)) (oE (mLst dsNil)))) (mCall 1 F_law_worth (msCons (oE (mVar 0)) msNil)) (mC .none)))) dsNil)))))))
    (sAppend 3 (fE (oE (mTup (dsCons (fE (oE (mVar 4))) (dsCons (fE (oE (mCallB gTuple (msCons (oE (mVar 5)) msNil)))) dsNil)))))))))
def Tb_3 : Sm := (sRet (mCallB gTuple (msCons (oE (mVar 3)) msNil)))
theorem B_law_tables_is : B_law_tables = (sSeq Tb_1 (sSeq Tb_2 Tb_3)) := rfl
theorem lt_get {α : Type} {l : List α} {i : Nat} {x : α} (h : l[i]? = some x) : i < l.length := by
  rcases Nat.lt_or_ge i l.length with q | q
  · exact q
  · rw [List.getElem?_eq_none q] at h; cases h
theorem get_map {α β : Type} {f : α → β} {l : List α} {i : Nat} {y : β} (h : (l.map f)[i]? = some y) : ∃ x, l[i]? = some x ∧ y = f x := by
  rw [List.getElem?_map] at h
  cases e : l[i]? with
  | none => rw [e] at h; cases h
  | some x => rw [e] at h; cases h; exact ⟨x, rfl, rfl⟩
theorem take_get {α : Type} {l : List α} {i : Nat} {x : α} (h : l[i]? = some x) : l.take (i + 1) = l.take i ++ [x] := by
  rw [List.take_add_one, h]; rfl
end M5

namespace M5
open PySem PySem.Spec L2 M3 M4
open PyProof.Rows hiding St
section
variable {ε : En} {m m2 : M RV} {mds : M (List D)} {i : Nat}
@[simp] theorem x_dIn (neg : Bool) : mDIn neg i m ε = (m ε).bind fun r ε1 => match dctAt ε1 i, keyR ε1 r with
  | some kvs, some k => .ok (.fro (.bool (neg ^^ (valD kvs k).isSome))) ε1
  | _, _ => .bad := rfl
@[simp] theorem x_dGet2 : mDGet2 i m m2 ε = (match dctAt ε i with
  | some _ => (m ε).bind fun r ε1 => (m2 ε1).bind fun z ε2 => (match dctAt ε2 i, keyR ε2 r with
    | some kvs, some k => (match valD kvs k with
      | some d => .ok (.fro d) ε2
      | none => (match z with
        | .fro d => .ok (.fro d) ε2
        | _ => .bad))
    | _, _ => .bad)
  | none => .bad) := rfl
@[simp] theorem x_enum : mEnum mds ε = (mds ε).bind fun rs ε1 => match rs with
  | [.list ds] => .ok (enumD 0 ds) ε1
  | [.tuple ds] => .ok (enumD 0 ds) ε1
  | _ => .bad := rfl
end
/-! ### finding -/
def keyC (cols : List TC) (c : Str) : Bool := match cols with
  | x :: _ => sL x.1 == c
  | [] => false
def KW : List Str := ["bar", "carry", "look"]
def WS : List Str := ["bar", "carry", "empty", "fallback", "look"]
def WN : List Str := ["once", "end"]
/-! ### the place of a table, its columns -/
theorem gEq_str {y z : Str} (hy : SeqAt.shaped (.str y) = true) (hz : SeqAt.shaped (.str z) = true) : gEq (.str y) (.str z) = some (y == z) := by
  unfold gEq
  rw [if_pos ⟨hy, hz⟩, eqv_str]
theorem gIx_t {ds : List D} {k : Nat} {d : D} (h : ds[k]? = some d) : gIx (.tuple ds) (.int (k : Int)) = some (.val d) := by
  have hl := lt_get h
  show (L2.atI ds (k : Int)).map _ = _
  unfold L2.atI
  rw [ixN_lt (by omega) (by omega)]
  show ((ds[(k : Int).toNat]?).map _) = _
  rw [Int.toNat_natCast, h]
  rfl
end M5

namespace M5
open PySem PySem.Spec L2 M3 M4
open PyProof.Rows hiding St
def Ti1 : Sm := (sIf (mOr (mNot (mTru (oE (mCall 2 F_is_tuple_of (msCons (oE (mVar 1)) (msCons (oE (mC (.int 7))) msNil)))))) (mNot (mTru (oE (mCallB gAll (msCons (oE (mLc (mIt (fE (oE (mVar 1)))) (.nm 2) [2] mYes (fE (oE (mIsi "str" (oE (mVar 2))))))) msNil)))))) (sRet (mC (.bool false))) sNext)
def Ti2 : Sm := (sUnp (fE (oE (mVar 1))) (.tp [(.nm 3), (.nm 4), (.nm 5), (.nm 6), (.nm 7), (.nm 8), (.nm 9)]))
/-- a def that ends with a value -/
theorem fn_rt {own : List Nat} {N : Nat} {body : Sm} {ε E ε' εo : En} {d : D} (hp : parOk own 0 ε = true) (hl : ε.length ≤ N) (hE : ε ++ List.replicate (N - ε.length) none = E) (hb : body E = .rt (.fro d) ε') (ho : outE own ε' 0 ε = εo) : fnF own N body ε = .ok (.fro d) εo := by
  rw [x_fnF, if_pos ⟨hp, hl⟩, hE, hb, ← ho]
abbrev fS (z : Str) : Option SV := some (.fro (.str z))
abbrev fT (ts : List TT) : Option SV := some (.fro (.tuple (ts.map tblD)))
end M5

namespace M5
open PySem PySem.Spec L2 M3 M4
open PyProof.Rows hiding St
/-! ### the law's ties -/
structure TY where
  n : List Nat
  t : TT
  c : TC
  o : TT
  g : Str
  u : Str
  w : Str
def tieD (y : TY) : D := .tuple [dL y.n, dL y.t.1, dL y.c.1, dL y.o.1, .str y.g, .str y.u, .str y.w]
structure GoodY (ts : List TT) (y : TY) : Prop where
  n : Gn y.n
  t : y.t ∈ ts
  c : y.c ∈ y.t.2
  o : y.o ∈ ts
  g : y.g ∈ WS ∧ (y.g ∈ KW ∨ keyC y.t.2 (sL y.c.1) = false)
  u : y.u ∈ WS ∧ (y.u ∈ KW ∨ keyC y.t.2 (sL y.c.1) = false)
  w : y.w ∈ WN
def Ly1 : Sm := (sSet 3 (mLst dsNil))
def Ly2 : Sm := (sFor (mIt (fE (oE (mCall 2 F_law_names (msCons (oE (mVar 0)) (msCons (oE (mVar 2)) msNil)))))) (.nm 4) (sSeq (sUnp (fE (oE (mCall 2 F_law_some (msCons (oE (mVar 0)) (msCons (oE (mVar 1)) msNil))))) (.tp [(.nm 5), (.nm 6)]))
    (sSeq (sPar [7, 8] (msCons (mCall 2 F_law_take (msCons (oE (mVar 0)) (msCons (oE (mCallB gLen (msCons (oE (mVar 6)) msNil))) msNil))) (msCons (mOp gIx (oE (mCall 2 F_law_some (msCons (oE (mVar 0)) (msCons (oE (mVar 1)) msNil)))) (oE (mC (.int 0)))) msNil)))
    (sSeq (sSet 9 (mOp gAdd (oE (mLst (dsCons (fE (oE (mC (.str "bar")))) (dsCons (fE (oE (mC (.str "carry")))) (dsCons (fE (oE (mC (.str "look")))) dsNil))))) (oE (mOp gMul (oE (mLst (dsCons (fE (oE (mC (.str "empty")))) (dsCons (fE (oE (mC (.str "fallback")))) dsNil)))) (oE (mCallB gInt (msCons (oE (mOp (bo gGt) (oE (mVar 7)) (oE (mC (.int 0))))) msNil)))))))
    (sSeq (sPar [10, 11, 12] (msCons (mCall 2 F_law_some (msCons (oE (mVar 0)) (msCons (oE (mVar 9)) msNil))) (msCons (mCall 2 F_law_some (msCons (oE (mVar 0)) (msCons (oE (mVar 9)) msNil))) (msCons (mOp gIx (oE (mLst (dsCons (fE (oE (mC (.str "once")))) (dsCons (fE (oE (mC (.str "end")))) dsNil)))) (oE (mCall 2 F_law_take (msCons (oE (mVar 0)) (msCons (oE (mC (.int 2))) msNil))))) msNil))))
    (sAppend 3 (fE (oE (mTup (dsCons (fE (oE (mVar 4))) (dsCons (fE (oE (mVar 5))) (dsCons (fE (oE (mOp gIx (oE (mOp gIx (oE (mVar 6)) (oE (mVar 7)))) (oE (mC (.int 0)))))) (dsCons (fE (oE (mVar 8))) (dsCons (fE (oE (mVar 10))) (dsCons (fE (oE (mVar 11))) (dsCons (fE (oE (mVar 12))) dsNil))))))))))))))))
def Ly3 : Sm := (sRet (mCallB gTuple (msCons (oE (mVar 3)) msNil)))
theorem B_law_ties_is : B_law_ties = (sSeq Ly1 (sSeq Ly2 Ly3)) := rfl
def ways (key : Bool) : List D := [.str "bar", .str "carry", .str "look"] ++ (if key = true then [] else [.str "empty", .str "fallback"])
end M5

namespace M5
open PySem PySem.Spec L2 M3 M4
open PyProof.Rows hiding St
end M5

namespace M3
open PySem PySem.Spec L2
open PyProof.Rows hiding St
/-! ### a comprehension of two clauses -/
theorem walk_any {J : It} {n : Nat} {G : Hp → Prop} {Y : Nat → Hp → V → Hp → Prop} (w : Walk J n G Y) {B : (Hp → Prop) → V → Hp → Prop} {H0 : Hp} {Qd : Hp → Prop} (Pv : Nat → Hp → Prop) (h0 : Pv 0 H0) (hG : ∀ i H, i ≤ n → Pv i H → G H)
    (hs : ∀ i x H H', i < n → Pv i H → Y i H x H' → B (Pv (i + 1)) x H') (hd : ∀ H, Pv n H → Qd H) :
    ∃ W : Nat → Nat → Hp → Prop, (∃ m, W 0 m H0) ∧ ∀ i m H, W i m H →
      (J.stop i H ∧ Qd H) ∨ (J.go i H ∧ ∃ Nx : Hp → Prop, (∀ H', Nx H' → ∃ m', m' < m ∧ W (i + 1) m' H') ∧ ∀ x H', J.yld i H x H' → B Nx x H') := by
  refine ⟨fun i m H => m = n - i ∧ i ≤ n ∧ Pv i H, ⟨n, by simp, Nat.zero_le _, h0⟩, ?_⟩
  rintro i m H ⟨rfl, hi, p⟩
  have q := hG i H hi p
  by_cases hlt : i < n
  · exact .inr ⟨w.goes i H hlt q, Pv (i + 1), fun H' p' => ⟨n - (i + 1), by omega, rfl, hlt, p'⟩, fun x H' y => hs i x H H' hlt p (w.yields i H x H' hlt q y)⟩
  · have e : i = n := by omega
    subst e
    exact .inl ⟨w.stops H q, hd H p⟩
/-- within a comprehension: the new object at D is nobody's, all else is as environments say -/
structure LcP (C : Ct) (Hf0 H0 : Hp) (o : Addr → Prop) (D : Addr) (σ : L2.St) (Hf H : Hp) (w : Own) (ε : En) (Ru : Hp → HO → Prop) : Prop where
  E : EnR C Hf H w σ ε
  at_ : ∃ u, H D = some u ∧ Ru Hf u
  mono : ∀ Hf Hf' u, Same Hf Hf' → Ru Hf u → Ru Hf' u
  hf : Hf D = none
  nw : ∀ i a, w i a → a ≠ D
  st : Stp Hf0 H0 o Hf H (fun x => O w x ∨ x = D)
def RuL (K : PySem.W.Frag) (acc : List M3.D) (Hf : Hp) (u : HO) : Prop := ∃ av, u = .lst av ∧ DqAll K Hf av acc
theorem RuL.mono {K : PySem.W.Frag} {acc : List M3.D} (Hf Hf' : Hp) (u : HO) (s : Same Hf Hf') : RuL K acc Hf u → RuL K acc Hf' u := fun ⟨av, e, q⟩ => ⟨av, e, q.mono s⟩
def RuD (K : PySem.W.Frag) (kvs : List (Key × M3.D)) (Hf : Hp) (u : HO) : Prop := ∃ kvv, u = .dK kvv ∧ KvAll K Hf kvv kvs
theorem RuD.mono {K : PySem.W.Frag} {kvs : List (Key × M3.D)} (Hf Hf' : Hp) (u : HO) (s : Same Hf Hf') : RuD K kvs Hf u → RuD K kvs Hf' u := fun ⟨av, e, q⟩ => ⟨av, e, q.mono s⟩
section
variable {C : Ct} {Hf0 H0 : Hp} {o : Addr → Prop} {D : Addr} {σ : L2.St} {Hf H : Hp} {w : Own} {ε : En} {Ru Ru' : Hp → HO → Prop}
theorem LcP.run {α β : Type} {Rel : Rl α β} {t : TX β} {m : M α} {a : α} {ε2 : En} {K : β → Hp → Prop} (h : Snd C Rel t m) (p : LcP C Hf0 H0 o D σ Hf H w ε Ru) (e : m ε = .ok a ε2)
    (k : ∀ Hf2 w2 S b H2, Same Hf Hf2 → Rel C Hf2 H2 w2 σ S b a → LcP C Hf0 H0 o D σ Hf2 H2 w2 ε2 Ru → K b H2) : t σ H K := by
  refine h Hf H w σ ε K p.E ?_
  rw [e]
  intro Hf2 H2 w2 S b E2 s2 r2
  obtain ⟨u, hD, dq⟩ := p.at_
  obtain ⟨q1, q2, q3⟩ := s2.rest D (by rw [hD]; simp) (fun ⟨j, q⟩ => p.nw j D q rfl)
  refine k Hf2 w2 S b H2 s2.mono r2 ⟨E2, ⟨u, q1.trans hD, p.mono _ _ _ s2.mono dq⟩, p.mono, q2.trans p.hf, fun i a hw z => q3 (.inl ⟨i, by rw [← z]; exact hw⟩), p.st.trans ⟨s2.mono, fun a ha na => ?_⟩⟩
  obtain ⟨r1, r2, r3⟩ := s2.rest a ha (fun z => na (.inl z))
  exact ⟨r1, r2, fun z => z.elim (fun z => r3 (.inl z)) fun z => na (.inr z)⟩
theorem LcP.wiped (p : LcP C Hf0 H0 o D σ Hf H w ε Ru) {vs : List Nat} (hv : ∀ i, vs.contains i = true → C.own.contains i = false) : LcP C Hf0 H0 o D (wipe σ vs) Hf H (wWipe w vs) (wipeE ε vs) Ru :=
  ⟨p.E.wiped hv, p.at_, p.mono, p.hf, fun i a z => p.nw i a z.2, p.st.out fun x z => z.elim (fun ⟨j, q⟩ => .inl ⟨j, q.2⟩) .inr⟩
theorem LcP.put (p : LcP C Hf0 H0 o D σ Hf H w ε Ru) {u : HO} (hu : Ru' Hf u) (hm : ∀ Hf Hf' u, Same Hf Hf' → Ru' Hf u → Ru' Hf' u) : LcP C Hf0 H0 o D σ Hf (upd H D u) w ε Ru' := by
  refine ⟨p.E.aside p.hf p.nw, ⟨_, upd_same, hu⟩, hm, p.hf, p.nw, p.st.trans ⟨Same.refl _, fun a ha na => ?_⟩⟩
  have aD : a ≠ D := fun z => na (.inr z)
  exact ⟨upd_ne aD, rfl, na⟩
theorem LcP.yield (p : LcP C Hf0 H0 o D σ Hf H w ε Ru) {x : V} {d : M3.D} {H2 : Hp} (hcs : (H2 = H ∧ Dq C.K Hf x d) ∨ ∃ q u, H q = none ∧ H2 = upd H q u ∧ Dq C.K (upd Hf q u) x d) :
    ∃ Hf2, Same Hf Hf2 ∧ LcP C Hf0 H0 o D σ Hf2 H2 w ε Ru ∧ Dq C.K Hf2 x d := by
  rcases hcs with ⟨rfl, dq⟩ | ⟨p0, u, hp, rfl, dq⟩
  · exact ⟨Hf, Same.refl _, p, dq⟩
  · obtain ⟨u0, hD, q⟩ := p.at_
    have ne : D ≠ p0 := fun z => by rw [← z, hD] at hp; cases hp
    have s : Stp Hf H (fun x => O w x ∨ x = D) (upd Hf p0 u) (upd H p0 u) (fun x => O w x ∨ x = D) := Stp.lay p.E.sub hp
    exact ⟨_, s.mono, ⟨p.E.lay hp, ⟨u0, by rw [upd_ne ne]; exact hD, p.mono _ _ _ s.mono q⟩, p.mono, by rw [upd_ne ne]; exact p.hf, p.nw, p.st.trans s⟩, dq⟩
theorem LcP.bind {g : TG} {vs : List Nat} {pt : Pat} {x : V} {d : M3.D} {ε2 : En} {Q : L2.St → Hp → Prop} (hg : PatS C g vs pt) (p : LcP C Hf0 H0 o D σ Hf H w ε Ru) (dq : Dq C.K Hf x d) (e : bindP pt d ε = some ε2)
    (k : ∀ σ2 w2, LcP C Hf0 H0 o D σ2 Hf H w2 ε2 Ru → Only vs σ σ2 → Q σ2 H) : g x σ H Q := by
  refine hg Hf H w σ ε x d ε2 _ p.E dq e fun σ2 w2 E2 st2 on2 => ?_
  obtain ⟨u, hD, q⟩ := p.at_
  refine k σ2 w2 ⟨E2, ⟨u, hD, q⟩, p.mono, p.hf, fun i a hw z => ?_, p.st.trans ⟨st2.mono, fun a ha na => ?_⟩⟩ on2
  · have := (st2.rest D (by rw [hD]; simp) (fun ⟨j, q⟩ => p.nw j D q rfl)).2.2
    exact this ⟨i, by rw [← z]; exact hw⟩
  · have nb : ¬ O w a := fun z => na (.inl z)
    obtain ⟨q1, q2, q3⟩ := st2.rest a ha nb
    exact ⟨q1, q2, fun z => z.elim q3 fun z => na (.inr z)⟩
/-- behind the loop -/
theorem LcP.back {C0 : Ct} {σ0 : L2.St} {ε0 εF : En} {w0 : Own} {vs : List Nat} (E : EnR C0 Hf0 H0 w0 σ0 ε0) (hD0 : H0 D = none) (p : LcP C Hf0 H0 (O (wWipe w0 vs)) D (wipe σ0 vs) Hf H w εF Ru) (hK : C.K = C0.K) (ho : C.own = C0.own) (hvs : C.vs = C0.vs) :
    ∃ w', EnR C0 Hf H w' σ0 (restE ε0 εF vs) ∧ Stp Hf0 H0 (O w0) Hf H (fun x => O w' x ∨ x = D) ∧ (∀ i a, w' i a → ¬ a = D) := by
  have E'' : EnR C0 Hf H w (wipe σ0 vs) εF := p.E.recast hK.symm ho.symm hvs.symm
  have hoo : ∀ i a, vs.contains i = true → w0 i a → ¬ O (wWipe w0 vs) a := fun i a hcv hw => fun ⟨j, q⟩ => by
    have := E.sep i j a hw q.2
    have q1 := q.1
    rw [← this, hcv] at q1
    cases q1
  have E7 := E.restored E'' p.st hoo (fun a z => .inl z)
  refine ⟨_, E7, ⟨p.st.mono, fun a ha na => ?_⟩, fun i a hw z => ?_⟩
  · obtain ⟨r1, r2, r3⟩ := p.st.rest a ha (fun ⟨j, q⟩ => na ⟨j, q.2⟩)
    refine ⟨r1, r2, fun z => z.elim (fun ⟨j, q⟩ => ?_) fun z => r3 (.inr z)⟩
    rcases q with ⟨_, q⟩ | ⟨_, q⟩
    · exact na ⟨j, q⟩
    · exact r3 (.inl ⟨j, q⟩)
  · rcases hw with ⟨_, q⟩ | ⟨_, q⟩
    · exact E.nw hD0 i a q z
    · exact p.nw i a q z
end
def lcLoop2 (p : Pat) (vs : List Nat) (c : M Bool) (mi1 : M (List D)) (p1 : Pat) (vs1 : List Nat) (c1 : M Bool) (m : M D) : List D → List D → En → R (List D)
  | [], acc, ε => .ok acc ε
  | d :: ds, acc, ε => match bindP p d ε with
    | none => .bad
    | some ε1 => match c ε1 with
      | .ok true ε2 => (match mi1 ε2 with
        | .ok ds1 ε3 => (match lcLoop p1 vs1 c1 m ds1 acc (wipeE ε3 vs1) with
          | .ok acc' ε4 => lcLoop2 p vs c mi1 p1 vs1 c1 m ds acc' (wipeE ε4 vs)
          | _ => .bad)
        | _ => .bad)
      | .ok false ε2 => lcLoop2 p vs c mi1 p1 vs1 c1 m ds acc (wipeE ε2 vs)
      | _ => .bad
def mLc2 (mi : M (List D)) (p : Pat) (vs : List Nat) (c : M Bool) (mi1 : M (List D)) (p1 : Pat) (vs1 : List Nat) (c1 : M Bool) (m : M D) : M RV := fun ε => (mi ε).bind fun ds ε1 => match lcLoop2 p vs c mi1 p1 vs1 c1 m ds [] (wipeE ε1 vs) with
  | .ok acc ε2 => .ok (.new (.lst acc)) (restE ε1 ε2 vs)
  | _ => .bad
theorem drop_at {ds : List D} {i : Nat} {d : D} (hd : ds[i]? = some d) : ds.drop i = d :: ds.drop (i + 1) := by
  obtain ⟨h1, h2⟩ := List.getElem?_eq_some_iff.mp hd
  rw [List.drop_eq_getElem_cons h1, h2]
/-- the second clause's own loop -/
theorem lc_in {C : Ct} {Hf0 H0 : Hp} {o : Addr → Prop} {D : Addr} {σ : L2.St} {Hf H : Hp} {w : Own} {ε ε' : En} {acc acc' : List M3.D} {J : It} {ds : List M3.D} {g : TG} {vs : List Nat} {p : Pat} {tt : TT} {c : M Bool} {te : TE} {m : M M3.D} {Nx : Hp → Prop} (hv : ∀ i, vs.contains i = true → C.own.contains i = false)
    (rJ : ItR C Hf J ds) (hg : PatS C g vs p) (hc : Snd C relB tt c) (he : Snd C relD te m) (P : LcP C Hf0 H0 o D σ Hf H w ε (RuL C.K acc)) (eL : lcLoop p vs c m ds acc (wipeE ε vs) = .ok acc' ε')
    (hN : ∀ Hf' H' w', LcP C Hf0 H0 o D (wipe σ vs) Hf' H' w' ε' (RuL C.K acc') → Nx H') :
    ∃ W : Nat → Nat → Hp → Prop, (∃ m, W 0 m H) ∧ ∀ i m H, W i m H → (J.stop i H ∧ Nx H) ∨ (J.go i H ∧ ∃ Nx1 : Hp → Prop, (∀ H', Nx1 H' → ∃ m', m' < m ∧ W (i + 1) m' H') ∧ ∀ x H', J.yld i H x H' → g x (wipe σ vs) H' fun σ3 H5 => wipe σ3 vs = wipe σ vs ∧ tt σ3 H5 fun b H6 =>
      if b = true then te σ3 H6 fun y H7 => ∃ acc, H7 D = some (.lst acc) ∧ acc.length < sizeLine ∧ Nx1 (upd H7 D (.lst (acc ++ [y]))) else Nx1 H6) := by
  obtain ⟨G, Y, wk, hG, hY⟩ := rJ
  refine walk_any (B := fun Nx1 x H' => g x (wipe σ vs) H' fun σ3 H5 => wipe σ3 vs = wipe σ vs ∧ tt σ3 H5 fun b H6 =>
      if b = true then te σ3 H6 fun y H7 => ∃ acc, H7 D = some (.lst acc) ∧ acc.length < sizeLine ∧ Nx1 (upd H7 D (.lst (acc ++ [y]))) else Nx1 H6) wk
    (fun i H' => ∃ Hf' w' ε1 acc1, Same Hf Hf' ∧ LcP C Hf0 H0 o D (wipe σ vs) Hf' H' w' ε1 (RuL C.K acc1) ∧ lcLoop p vs c m (ds.drop i) acc1 ε1 = .ok acc' ε') ?_ ?_ ?_ ?_
  · exact ⟨Hf, _, _, acc, Same.refl _, P.wiped hv, eL⟩
  · rintro i H' _ ⟨Hf', w', ε1, acc1, sm, q, _⟩
    exact hG H' (sm.trans q.E.sub)
  · rintro i x H' H'' hi' ⟨Hf', w', ε1, acc1, sm, q, el⟩ y
    obtain ⟨d, hd, hcs⟩ := hY Hf' H' i x H'' hi' sm q.E.sub y
    rw [drop_at hd] at el
    unfold lcLoop at el
    obtain ⟨Hf2, sm2, q2, dq⟩ := q.yield hcs
    cases e : bindP p d ε1 with
    | none => rw [e] at el; cases el
    | some ε2 =>
    rw [e] at el
    dsimp only at el
    refine q2.bind hg dq e fun σ3 w3 q3 on3 => ?_
    have ow : wipe σ3 vs = wipe σ vs := by rw [only_wipe on3, only_wipe wipe_only]
    refine ⟨ow, ?_⟩
    cases ec : c ε2 with
    | bad => rw [ec] at el; cases el
    | err x4 ε4 => rw [ec] at el; cases el
    | ok b ε3 =>
    rw [ec] at el
    refine q3.run hc ec fun Hf4 w4 S4 b4 H4 sm4 r4 q4 => ?_
    obtain ⟨_, rfl⟩ := r4
    cases b4 with
    | false =>
      dsimp only at el
      rw [if_neg (by simp)]
      have q5 := q4.wiped hv
      rw [ow] at q5
      exact ⟨Hf4, _, _, acc1, sm.trans (sm2.trans sm4), q5, el⟩
    | true =>
      dsimp only at el
      rw [if_pos rfl]
      cases em : m ε3 with
      | bad => rw [em] at el; cases el
      | err x5 ε5 => rw [em] at el; cases el
      | ok y5 ε4 =>
      rw [em] at el
      dsimp only at el
      refine q4.run he em fun Hf5 w5 S5 b5 H5 sm5 r5 q5 => ?_
      split at el
      · rename_i hlen
        obtain ⟨_, hD, av, rfl, dqa⟩ := q5.at_
        have q7 := (q5.put (Ru' := RuL C.K (acc1 ++ [y5])) ⟨_, rfl, dqa.append (.cons r5.2 .nil)⟩ RuL.mono).wiped hv
        rw [ow] at q7
        exact ⟨av, hD, by rw [dqa.length]; exact hlen, Hf5, _, _, _, sm.trans (sm2.trans (sm4.trans sm5)), q7, el⟩
      · cases el
  · rintro H' ⟨Hf', w', ε1, acc1, sm, q, el⟩
    rw [List.drop_length] at el
    unfold lcLoop at el
    cases el
    exact hN _ _ _ q
theorem snd_lc2 {C C' : Ct} {wi wi1 : TI} {mi mi1 : M (List D)} {g g1 : TG} {vs vs1 : List Nat} {p p1 : Pat} {tt tt1 : TT} {c c1 : M Bool} {te : TE} {m : M D} (hv : ∀ i, vs.contains i = true → C.own.contains i = false) (hv1 : ∀ i, vs1.contains i = true → C'.own.contains i = false) (hs1 : ∀ i, vs1.contains i = true → vs.contains i = true)
    (hK : C'.K = C.K) (ho : C'.own = C.own) (hvs : C'.vs = C.vs) (hi : Snd C relI wi mi) (hg : PatS C' g vs p) (hc : Snd C' relB tt c) (hi1 : Snd C' relI wi1 mi1) (hg1 : PatS C' g1 vs1 p1) (hc1 : Snd C' relB tt1 c1) (he : Snd C' relD te m) : Snd C relRV (tLc2 wi g tt wi1 g1 tt1 te vs vs1) (mLc2 mi p vs c mi1 p1 vs1 c1 m) := by
  have w2 : ∀ σ : L2.St, wipe (wipe σ vs1) vs = wipe σ vs := fun σ => by
    apply List.ext_getElem?
    intro j
    rw [wipe_get, wipe_get, wipe_get, wipe_length]
    by_cases h : vs.contains j = true
    · rw [if_pos h, if_pos h]
    · rw [if_neg h, if_neg h, if_neg (fun z => h (hs1 j z))]
  refine Snd.bind (Rel1 := relI) (t1 := wi) (t2 := fun (J : It) (σ : L2.St) (H1 : Hp) (Q : VK) => ∀ D : Addr, H1 D = none → ∃ W : Nat → Nat → Hp → Prop, (∃ m, W 0 m (upd H1 D (.lst []))) ∧ ∀ i m H, W i m H →
    (J.stop i H ∧ Q (.ref D) H) ∨ (J.go i H ∧ ∃ Nx : Hp → Prop, (∀ H', Nx H' → ∃ m', m' < m ∧ W (i + 1) m' H') ∧ ∀ x H', J.yld i H x H' → g x (wipe σ vs) H' fun σ2 H2 => wipe σ2 vs = wipe σ vs ∧ tt σ2 H2 fun b H3 =>
    if b = true then wi1 σ2 H3 fun J1 H4 => ∃ W1 : Nat → Nat → Hp → Prop, (∃ m, W1 0 m H4) ∧ ∀ j k H, W1 j k H →
      (J1.stop j H ∧ Nx H) ∨ (J1.go j H ∧ ∃ Nx1 : Hp → Prop, (∀ H', Nx1 H' → ∃ k', k' < k ∧ W1 (j + 1) k' H') ∧ ∀ x H', J1.yld j H x H' → g1 x (wipe σ2 vs1) H' fun σ3 H5 => wipe σ3 vs1 = wipe σ2 vs1 ∧ tt1 σ3 H5 fun b H6 =>
        if b = true then te σ3 H6 fun y H7 => ∃ acc, H7 D = some (.lst acc) ∧ acc.length < sizeLine ∧ Nx1 (upd H7 D (.lst (acc ++ [y]))) else Nx1 H6)
    else Nx H3)) hi fun Hf H w σ ε S J ds Q E rJ P => ?_
  obtain ⟨_, G, Y, wk, hG, hY⟩ := rJ
  intro D hD
  have hfD : Hf D = none := same_none E.sub hD
  cases eL : lcLoop2 p vs c mi1 p1 vs1 c1 m ds [] (wipeE ε vs) with
  | bad => rw [eL] at P; exact P.elim
  | err x ε2 => rw [eL] at P; exact P.elim
  | ok accF εF =>
  rw [eL] at P
  replace P : PostX C relRV Hf H w σ Q (.ok (.new (.lst accF)) (restE ε εF vs)) := P
  have Ew := ((E.wiped hv).recast (C' := C') hK ho hvs)
  have hv' : ∀ i, vs.contains i = true → C'.own.contains i = false := by rw [ho]; exact hv
  refine walk_any (B := fun Nx x H' => g x (wipe σ vs) H' fun σ2 H2 => wipe σ2 vs = wipe σ vs ∧ tt σ2 H2 fun b H3 =>
    if b = true then wi1 σ2 H3 fun J1 H4 => ∃ W1 : Nat → Nat → Hp → Prop, (∃ m, W1 0 m H4) ∧ ∀ j k H, W1 j k H →
      (J1.stop j H ∧ Nx H) ∨ (J1.go j H ∧ ∃ Nx1 : Hp → Prop, (∀ H', Nx1 H' → ∃ k', k' < k ∧ W1 (j + 1) k' H') ∧ ∀ x H', J1.yld j H x H' → g1 x (wipe σ2 vs1) H' fun σ3 H5 => wipe σ3 vs1 = wipe σ2 vs1 ∧ tt1 σ3 H5 fun b H6 =>
        if b = true then te σ3 H6 fun y H7 => ∃ acc, H7 D = some (.lst acc) ∧ acc.length < sizeLine ∧ Nx1 (upd H7 D (.lst (acc ++ [y]))) else Nx1 H6)
    else Nx H3) wk (fun i H' => ∃ Hf' w' ε' acc, Same Hf Hf' ∧ LcP C' Hf H (O (wWipe w vs)) D (wipe σ vs) Hf' H' w' ε' (RuL C'.K acc) ∧ lcLoop2 p vs c mi1 p1 vs1 c1 m (ds.drop i) acc ε' = .ok accF εF) ?_ ?_ ?_ ?_
  · exact ⟨Hf, wWipe w vs, wipeE ε vs, [], Same.refl _, ⟨Ew.layNew hD, ⟨_, upd_same, _, rfl, .nil⟩, RuL.mono, hfD, fun i a z => E.nw hD i a z.2, Stp.layNew hD⟩, eL⟩
  · rintro i H' _ ⟨Hf', w', ε', acc, sm, q, _⟩
    exact hG H' (sm.trans q.E.sub)
  · rintro i x H' H'' hi' ⟨Hf', w', ε', acc, sm, q, el⟩ y
    obtain ⟨d, hd, hcs⟩ := hY Hf' H' i x H'' hi' sm q.E.sub y
    rw [drop_at hd] at el
    unfold lcLoop2 at el
    rw [← hK] at hcs
    obtain ⟨Hf2, sm2, q2, dq⟩ := q.yield hcs
    cases e : bindP p d ε' with
    | none => rw [e] at el; cases el
    | some ε1 =>
    rw [e] at el
    dsimp only at el
    refine q2.bind hg dq e fun σ3 w3 q3 on3 => ?_
    have ow : wipe σ3 vs = wipe σ vs := by rw [only_wipe on3, only_wipe wipe_only]
    refine ⟨ow, ?_⟩
    cases ec : c ε1 with
    | bad => rw [ec] at el; cases el
    | err x4 ε4 => rw [ec] at el; cases el
    | ok b ε2 =>
    rw [ec] at el
    refine q3.run hc ec fun Hf4 w4 S4 b4 H4 sm4 r4 q4 => ?_
    obtain ⟨_, rfl⟩ := r4
    cases b4 with
    | false =>
      dsimp only at el
      rw [if_neg (by simp)]
      have q5 := q4.wiped hv'
      rw [ow] at q5
      exact ⟨Hf4, _, _, acc, sm.trans (sm2.trans sm4), q5, el⟩
    | true =>
      dsimp only at el
      rw [if_pos rfl]
      cases em : mi1 ε2 with
      | bad => rw [em] at el; cases el
      | err x5 ε5 => rw [em] at el; cases el
      | ok ds1 ε3 =>
      rw [em] at el
      dsimp only at el
      refine q4.run hi1 em fun Hf5 w5 S5 J5 H5 sm5 r5 q5 => ?_
      cases ei : lcLoop p1 vs1 c1 m ds1 acc (wipeE ε3 vs1) with
      | bad => rw [ei] at el; cases el
      | err x6 ε6 => rw [ei] at el; cases el
      | ok acc' ε4 =>
      rw [ei] at el
      dsimp only at el
      refine lc_in hv1 r5.2 hg1 hc1 he q5 ei fun Hf6 H6 w6 q6 => ?_
      have q7 := q6.wiped hv'
      rw [w2, ow] at q7
      have sm6 : Same Hf Hf6 := fun a b z => q6.st.mono a b z
      exact ⟨Hf6, _, _, acc', sm6, q7, el⟩
  · rintro H' ⟨Hf', w', ε', acc, sm, q, el⟩
    rw [List.drop_length] at el
    unfold lcLoop2 at el
    cases el
    obtain ⟨w7, E7, st7, nw7⟩ := LcP.back E hD q hK ho hvs
    obtain ⟨_, h1, av, rfl, h2⟩ := q.at_
    exact P Hf' H' w7 (fun x => x = D) (.ref D) E7 st7 ⟨D, rfl, ⟨fun _ => Iff.rfl, av, h1, by rw [← hK]; exact h2⟩, fun a z => by rw [z]; exact q.hf, nw7⟩
/-! ### {k: v for ..}, keys whole numbers or texts -/
def dcLoop (p : Pat) (vs : List Nat) (c : M Bool) (mk mv : M D) : List D → List (Key × D) → En → R (List (Key × D))
  | [], acc, ε => .ok acc ε
  | d :: ds, acc, ε => match bindP p d ε with
    | none => .bad
    | some ε1 => match c ε1 with
      | .ok true ε2 => (match mk ε2 with
        | .ok y ε3 => (match mv ε3, keyD y with
          | .ok z ε4, some k => if acc.length < sizeLine then dcLoop p vs c mk mv ds (putD acc k z) (wipeE ε4 vs) else .bad
          | _, _ => .bad)
        | _ => .bad)
      | .ok false ε2 => dcLoop p vs c mk mv ds acc (wipeE ε2 vs)
      | _ => .bad
def mDc (mi : M (List D)) (p : Pat) (vs : List Nat) (c : M Bool) (mk mv : M D) : M RV := fun ε => (mi ε).bind fun ds ε1 => match dcLoop p vs c mk mv ds [] (wipeE ε1 vs) with
  | .ok acc ε2 => .ok (.new (.dct acc)) (restE ε1 ε2 vs)
  | _ => .bad
theorem dq_key {K : PySem.W.Frag} {Hf : Hp} {v : V} {d : D} {k : Key} (h : Dq K Hf v d) (e : keyD d = some k) : v = kV k := by
  cases h with
  | int i => cases e; rfl
  | str z => cases e; rfl
  | _ => cases e
theorem snd_dc {C C' : Ct} {wi : TI} {mi : M (List D)} {g : TG} {vs : List Nat} {p : Pat} {tt : TT} {c : M Bool} {tk tv : TE} {mk mv : M D} (hv : ∀ i, vs.contains i = true → C.own.contains i = false)
    (hK : C'.K = C.K) (ho : C'.own = C.own) (hvs : C'.vs = C.vs) (hi : Snd C relI wi mi) (hg : PatS C' g vs p) (hc : Snd C' relB tt c) (hk : Snd C' relD tk mk) (he : Snd C' relD tv mv) : Snd C relRV (tDc wi g tt tk tv vs) (mDc mi p vs c mk mv) := by
  refine Snd.bind (Rel1 := relI) (t1 := wi) (t2 := fun (J : It) (σ : L2.St) (H1 : Hp) (Q : VK) => ∀ D : Addr, H1 D = none → ∃ W : Nat → Nat → Hp → Prop, (∃ m, W 0 m (upd H1 D (.dK []))) ∧ ∀ i m H, W i m H →
    (J.stop i H ∧ Q (.ref D) H) ∨ (J.go i H ∧ ∃ Nx : Hp → Prop, (∀ H', Nx H' → ∃ m', m' < m ∧ W (i + 1) m' H') ∧ ∀ x H', J.yld i H x H' → g x (wipe σ vs) H' fun σ2 H2 => wipe σ2 vs = wipe σ vs ∧ tt σ2 H2 fun b H3 =>
    if b = true then tk σ2 H3 fun y H4 => tv σ2 H4 fun z H5 => ∃ kvs k, y = kV k ∧ H5 D = some (.dK kvs) ∧ kvs.length < sizeLine ∧ Nx (upd H5 D (.dK (putK kvs k z))) else Nx H3)) hi fun Hf H w σ ε S J ds Q E rJ P => ?_
  obtain ⟨_, G, Y, wk, hG, hY⟩ := rJ
  intro D hD
  have hfD : Hf D = none := same_none E.sub hD
  cases eL : dcLoop p vs c mk mv ds [] (wipeE ε vs) with
  | bad => rw [eL] at P; exact P.elim
  | err x ε2 => rw [eL] at P; exact P.elim
  | ok accF εF =>
  rw [eL] at P
  replace P : PostX C relRV Hf H w σ Q (.ok (.new (.dct accF)) (restE ε εF vs)) := P
  have Ew := ((E.wiped hv).recast (C' := C') hK ho hvs)
  have hv' : ∀ i, vs.contains i = true → C'.own.contains i = false := by rw [ho]; exact hv
  refine walk_any (B := fun Nx x H' => g x (wipe σ vs) H' fun σ2 H2 => wipe σ2 vs = wipe σ vs ∧ tt σ2 H2 fun b H3 =>
    if b = true then tk σ2 H3 fun y H4 => tv σ2 H4 fun z H5 => ∃ kvs k, y = kV k ∧ H5 D = some (.dK kvs) ∧ kvs.length < sizeLine ∧ Nx (upd H5 D (.dK (putK kvs k z))) else Nx H3) wk (fun i H' => ∃ Hf' w' ε' acc, Same Hf Hf' ∧ LcP C' Hf H (O (wWipe w vs)) D (wipe σ vs) Hf' H' w' ε' (RuD C'.K acc) ∧ dcLoop p vs c mk mv (ds.drop i) acc ε' = .ok accF εF) ?_ ?_ ?_ ?_
  · exact ⟨Hf, wWipe w vs, wipeE ε vs, [], Same.refl _, ⟨Ew.layNew hD, ⟨_, upd_same, _, rfl, .nil⟩, RuD.mono, hfD, fun i a z => E.nw hD i a z.2, Stp.layNew hD⟩, eL⟩
  · rintro i H' _ ⟨Hf', w', ε', acc, sm, q, _⟩
    exact hG H' (sm.trans q.E.sub)
  · rintro i x H' H'' hi' ⟨Hf', w', ε', acc, sm, q, el⟩ y
    obtain ⟨d, hd, hcs⟩ := hY Hf' H' i x H'' hi' sm q.E.sub y
    rw [drop_at hd] at el
    unfold dcLoop at el
    rw [← hK] at hcs
    obtain ⟨Hf2, sm2, q2, dq⟩ := q.yield hcs
    cases e : bindP p d ε' with
    | none => rw [e] at el; cases el
    | some ε1 =>
    rw [e] at el
    dsimp only at el
    refine q2.bind hg dq e fun σ3 w3 q3 on3 => ?_
    have ow : wipe σ3 vs = wipe σ vs := by rw [only_wipe on3, only_wipe wipe_only]
    refine ⟨ow, ?_⟩
    cases ec : c ε1 with
    | bad => rw [ec] at el; cases el
    | err x4 ε4 => rw [ec] at el; cases el
    | ok b ε2 =>
    rw [ec] at el
    refine q3.run hc ec fun Hf4 w4 S4 b4 H4 sm4 r4 q4 => ?_
    obtain ⟨_, rfl⟩ := r4
    cases b4 with
    | false =>
      dsimp only at el
      rw [if_neg (by simp)]
      have q5 := q4.wiped hv'
      rw [ow] at q5
      exact ⟨Hf4, _, _, acc, sm.trans (sm2.trans sm4), q5, el⟩
    | true =>
      dsimp only at el
      rw [if_pos rfl]
      cases em : mk ε2 with
      | bad => rw [em] at el; cases el
      | err x5 ε5 => rw [em] at el; cases el
      | ok y5 ε3 =>
      rw [em] at el
      dsimp only at el
      refine q4.run hk em fun Hf5 w5 S5 b5 H5 sm5 r5 q5 => ?_
      split at el
      · rename_i z6 ε6 k6 ev ek
        refine q5.run he ev fun Hf6 w6 S6 b6 H6 sm6 r6 q6 => ?_
        split at el
        · rename_i hlen
          obtain ⟨_, hD6, kvv, rfl, dqa⟩ := q6.at_
          have q7 := (q6.put (Ru' := RuD C'.K (putD acc k6 z6)) ⟨_, rfl, dqa.put (k := k6) r6.2⟩ RuD.mono).wiped hv'
          rw [ow] at q7
          exact ⟨kvv, k6, dq_key r5.2 ek, hD6, by rw [dqa.len]; exact hlen, Hf6, _, _, _, sm.trans (sm2.trans (sm4.trans (sm5.trans sm6))), q7, el⟩
        · cases el
      · cases el
  · rintro H' ⟨Hf', w', ε', acc, sm, q, el⟩
    rw [List.drop_length] at el
    unfold dcLoop at el
    cases el
    obtain ⟨w7, E7, st7, nw7⟩ := LcP.back E hD q hK ho hvs
    obtain ⟨_, h1, kvv, rfl, h2⟩ := q.at_
    exact P Hf' H' w7 (fun x => x = D) (.ref D) E7 st7 ⟨D, rfl, ⟨fun _ => Iff.rfl, kvv, h1, by rw [← hK]; exact h2⟩, fun a z => by rw [z]; exact q.hf, nw7⟩
/-- tests one behind the other -/
theorem tests_false {prog : Program} {w : World} {A : Around} {E : Value → Shared → Prop} {s : Shared} {env : Env} {Q : Bool → Shared → Prop} (h : Q false s) : ∀ cs : List Expr,
    wpAny (model prog w) A (forIn cs false fun c r => if r = true then do let ok ← isTrue c env (eval c env); pure (ForInStep.yield ok) else pure (ForInStep.yield r)) Q E s
  | [] => wpAny_pure h
  | c :: cs => by
    simp only [List.forIn_cons, Bool.false_eq_true, if_false]
    exact wpAny_bind (wpAny_pure (tests_false h cs))
theorem pts_cons {X : Cx} {c : Expr} {cs : List Expr} {t u : TT} (h : PT X c t) (hs : PTs X cs u) : PTs X (c :: cs) (tAnd t u) := ⟨fun pins s σ H Q I hw => by
  simp only [List.forIn_cons, if_true]
  refine wpAny_bind (wpAny_bind (wpAny_mono (h.run pins s σ H _ I hw) (fun b s' hb => wpAny_pure ?_) fun _ _ x => x))
  obtain ⟨H', I', q⟩ := hb
  cases b with
  | true => exact hs.run pins s' σ H' Q I' q
  | false => exact tests_false ⟨H', I', q⟩ cs⟩
section
variable {X : Cx} {C : Ct} {pos : Pos}
theorem me_lc2 {elt tg iter tg1 iter1 : Expr} {ifs ifs1 : List Expr} {scope : Scope} {own : List (Str × Nat)} {wi wi1 : TI} {g g1 : TG} {tt tt1 : TT} {te : TE} {mi mi1 : M (List D)} {p p1 : Pat} {c1 c2 : M Bool} {mm : M D} (vs vs1 : List Nat) (ok : BlkOk X.N X.env.scope scope own) (hN : X.N.Nodup) (hi : MI X C tg iter wi mi)
    (hv : ∀ i, vs.contains i = true → C.own.contains i = false) (hv1 : ∀ i, vs1.contains i = true → C.own.contains i = false) (hs1 : ∀ i, vs1.contains i = true → vs.contains i = true)
    (hg : ∀ (s : Shared) (H : Hp) (A : Addr) (cl : List (Str × Addr)) (fp : List Addr), MG (X.blk s H scope (compEnvC scope cl A X.env) fp) ⟨C.K, C.own, C.vs, noW⟩ vs tg g p)
    (ht : ∀ (s : Shared) (H : Hp) (A : Addr) (cl : List (Str × Addr)) (fp : List Addr), PTs (X.blk s H scope (compEnvC scope cl A X.env) fp) ifs tt ∧ Snd ⟨C.K, C.own, C.vs, noW⟩ relB tt c1)
    (hi1 : ∀ (s : Shared) (H : Hp) (A : Addr) (cl : List (Str × Addr)) (fp : List Addr), MI (X.blk s H scope (compEnvC scope cl A X.env) fp) ⟨C.K, C.own, C.vs, noW⟩ tg1 iter1 wi1 mi1)
    (hg1 : ∀ (s : Shared) (H : Hp) (A : Addr) (cl : List (Str × Addr)) (fp : List Addr), MG (X.blk s H scope (compEnvC scope cl A X.env) fp) ⟨C.K, C.own, C.vs, noW⟩ vs1 tg1 g1 p1)
    (ht1 : ∀ (s : Shared) (H : Hp) (A : Addr) (cl : List (Str × Addr)) (fp : List Addr), PTs (X.blk s H scope (compEnvC scope cl A X.env) fp) ifs1 tt1 ∧ Snd ⟨C.K, C.own, C.vs, noW⟩ relB tt1 c2)
    (he : ∀ (s : Shared) (H : Hp) (A : Addr) (cl : List (Str × Addr)) (fp : List Addr), MD (X.blk s H scope (compEnvC scope cl A X.env) fp) ⟨C.K, C.own, C.vs, noW⟩ elt te mm)
    (hvs : own.map (·.2) = vs := by rfl) (hc : X.calm = true := by rfl) (hs : ∀ x, foldedSetIterable iter X.env x = pure x := by intro _; rfl) (hs2 : ∀ env x, foldedSetIterable iter1 env x = pure x := by intro _ _; rfl) :
    ME X C (.ListComp elt [⟨tg, iter, ifs, 0⟩, ⟨tg1, iter1, ifs1, 0⟩] scope pos) (tLc2 wi g tt wi1 g1 tt1 te vs vs1) (mLc2 mi p vs c1 mi1 p1 vs1 c2 mm) := by
  obtain ⟨gs, _⟩ : PatS ⟨C.K, C.own, C.vs, noW⟩ g vs p ∧ True := ⟨(hg X.s_0 X.H_0 0 [] []).sn, trivial⟩
  obtain ⟨gs1, _⟩ : PatS ⟨C.K, C.own, C.vs, noW⟩ g1 vs1 p1 ∧ True := ⟨(hg1 X.s_0 X.H_0 0 [] []).sn, trivial⟩
  refine ⟨?_, snd_lc2 (C' := ⟨C.K, C.own, C.vs, noW⟩) hv hv1 hs1 rfl rfl rfl hi.sn gs (ht X.s_0 X.H_0 0 [] []).2 (hi1 X.s_0 X.H_0 0 [] []).sn gs1 (ht1 X.s_0 X.H_0 0 [] []).2 (he X.s_0 X.H_0 0 [] []).sn, hi.hK⟩
  have q := pe_lc2 (pos := pos) (vs1 := vs1) hc hN hi.pi ok (fun i z => by
      rw [hvs]
      have := hs1 i (by simpa using z)
      simpa using this) (fun s H A cl fp => (hg s H A cl fp).pg) (fun s H A cl fp => (ht s H A cl fp).1) (fun s H A cl fp => (hi1 s H A cl fp).pi) (fun s H A cl fp => (hg1 s H A cl fp).pg) (fun s H A cl fp => (ht1 s H A cl fp).1) (fun s H A cl fp => (he s H A cl fp).pe) hs hs2
  rw [hvs] at q
  exact q
theorem me_dc {kx vx tg iter : Expr} {ifs : List Expr} {scope : Scope} {own : List (Str × Nat)} {wi : TI} {g : TG} {tt : TT} {tk tv : TE} {mi : M (List D)} {p : Pat} {c1 : M Bool} {mk mv : M D} (vs : List Nat) (ok : BlkOk X.N X.env.scope scope own) (hN : X.N.Nodup) (hi : MI X C tg iter wi mi)
    (hv : ∀ i, vs.contains i = true → C.own.contains i = false)
    (hg : ∀ (s : Shared) (H : Hp) (A : Addr) (cl : List (Str × Addr)) (fp : List Addr), MG (X.blk s H scope (compEnvC scope cl A X.env) fp) ⟨C.K, C.own, C.vs, noW⟩ vs tg g p)
    (ht : ∀ (s : Shared) (H : Hp) (A : Addr) (cl : List (Str × Addr)) (fp : List Addr), PTs (X.blk s H scope (compEnvC scope cl A X.env) fp) ifs tt ∧ Snd ⟨C.K, C.own, C.vs, noW⟩ relB tt c1)
    (hk : ∀ (s : Shared) (H : Hp) (A : Addr) (cl : List (Str × Addr)) (fp : List Addr), MD (X.blk s H scope (compEnvC scope cl A X.env) fp) ⟨C.K, C.own, C.vs, noW⟩ kx tk mk)
    (he : ∀ (s : Shared) (H : Hp) (A : Addr) (cl : List (Str × Addr)) (fp : List Addr), MD (X.blk s H scope (compEnvC scope cl A X.env) fp) ⟨C.K, C.own, C.vs, noW⟩ vx tv mv)
    (hvs : own.map (·.2) = vs := by rfl) (hc : X.calm = true := by rfl) (hs : ∀ x, foldedSetIterable iter X.env x = pure x := by intro _; rfl) :
    ME X C (.DictComp kx vx [⟨tg, iter, ifs, 0⟩] scope pos) (tDc wi g tt tk tv vs) (mDc mi p vs c1 mk mv) := by
  obtain ⟨gs, _⟩ : PatS ⟨C.K, C.own, C.vs, noW⟩ g vs p ∧ True := ⟨(hg X.s_0 X.H_0 0 [] []).sn, trivial⟩
  refine ⟨?_, snd_dc (C' := ⟨C.K, C.own, C.vs, noW⟩) hv rfl rfl rfl hi.sn gs (ht X.s_0 X.H_0 0 [] []).2 (hk X.s_0 X.H_0 0 [] []).sn (he X.s_0 X.H_0 0 [] []).sn, hi.hK⟩
  have q := pe_dc (pos := pos) hc hN hi.pi ok (fun s H A cl fp => (hg s H A cl fp).pg) (fun s H A cl fp => (ht s H A cl fp).1) (fun s H A cl fp => (hk s H A cl fp).pe) (fun s H A cl fp => (he s H A cl fp).pe) hs
  rw [hvs] at q
  exact q
end
end M3

namespace M3
open PySem PySem.Spec L2
open PyProof.Rows hiding St
/-! ### list(zip(xs, ys)) of two lists -/
/-- the tuples of the pairs at the addresses -/
structure PrAt (xs ys : Array Value) (lo : Addr) (h : Heap) (as : List Addr) : Prop where
  rise : as.Pairwise (· < ·)
  above : ∀ a ∈ as, lo < a
  pairs : ∀ (j : Nat) (a : Addr), as[j]? = some a → ∃ x y, xs[j]? = some x ∧ ys[j]? = some y ∧ h.get? a = some { cls := .type "tuple", data := .seq #[x, y] }
structure ZAt (z TI TO i1 i2 l1 l2 S : Addr) (xs ys : Array Value) (i : Nat) (h : Heap) : Prop where
  ti : IsPair h TI (.ref i1) (.ref i2)
  it1 : h.IsListIter i1 l1 i
  it2 : h.IsListIter i2 l2 i
  li1 : h.IsList l1 xs
  li2 : h.IsList l2 ys
  st : (IsZip h z TI TO .none ∧ ∃ a b, IsPair h TO a b) ∨ ∃ T f oT, IsZipHeld h z TI TO T f ∧ h.get? T = some oT ∧ T ≠ z ∧ T ≠ i1 ∧ T ≠ i2 ∧ T ≠ S
section
variable {prog : Program} {w : World} {A : Around} {E : Value → Shared → Prop} {s : Shared} {z TI TO i1 i2 l1 l2 S : Addr} {xs ys : Array Value} {i : Nat}
theorem ZAt.keep {h h' : Heap} (x : ZAt z TI TO i1 i2 l1 l2 S xs ys i h) (n : S ≠ z ∧ S ≠ TI ∧ S ≠ TO ∧ S ≠ i1 ∧ S ≠ i2 ∧ S ≠ l1 ∧ S ≠ l2) (k : ∀ b o, b ≠ S → h.get? b = some o → h'.get? b = some o) : ZAt z TI TO i1 i2 l1 l2 S xs ys i h' := by
  obtain ⟨n1, n2, n3, n4, n5, n6, n7⟩ := n
  refine ⟨k _ _ n2.symm x.ti, x.it1.at fun o e => k _ o n4.symm e, x.it2.at fun o e => k _ o n5.symm e, x.li1.at fun o e => k _ o n6.symm e, x.li2.at fun o e => k _ o n7.symm e, ?_⟩
  rcases x.st with ⟨hz, a, b, hTO⟩ | ⟨T, f, oT, hz, hT, r1, r2, r3, r4⟩
  · exact .inl ⟨k _ _ n1.symm hz, a, b, k _ _ n3.symm hTO⟩
  · exact .inr ⟨T, f, oT, k _ _ n1.symm hz, k _ _ r4 hT, r1, r2, r3, r4⟩
theorem zl_item {Q : Option Value → Shared → Prop} (D : ZipApart z TI TO i1 i2 l1 l2) (st : ZAt z TI TO i1 i2 l1 l2 S xs ys i s.heap) (hS : S < s.heap.objs.size) {x y : Value} (ex : xs[i]? = some x) (ey : ys[i]? = some y)
    (hQ : ∀ h', ZAt z TI TO i1 i2 l1 l2 S xs ys (i + 1) h' → h'.get? s.heap.objs.size = some { cls := .type "tuple", data := .seq #[x, y] } → h'.objs.size = s.heap.objs.size + 1 →
      (∀ c o, c ≠ z → c ≠ TO → c ≠ i1 → c ≠ i2 → s.heap.get? c = some o → h'.get? c = some o) → Q (some (.ref s.heap.objs.size)) { s with heap := h' }) :
    wpAny (model prog w) A (pyNext (.ref z)) Q E s := by
  obtain ⟨hTI, h1, h2, hl1, hl2, hz⟩ := st
  have lt : ∀ {c o}, s.heap.get? c = some o → s.heap.objs.size ≠ c := fun e => Nat.ne_of_gt (Heap.lt_size e)
  have n1 : s.heap.objs.size ≠ i1 := let ⟨_, e, _⟩ := h1; lt e
  have n2 : s.heap.objs.size ≠ i2 := let ⟨_, e, _⟩ := h2; lt e
  rcases hz with ⟨hz, a, b, hTO⟩ | ⟨T, f, oT, hz, hT, r1, r2, r3, r4⟩
  · refine wpAny_pyNext_zip_item D hz hTI hTO h1 h2 hl1 hl2 ex ey fun h' a1 a2 a3 a4 a5 a6 hk => ?_
    exact hQ h' ⟨hk _ _ D.TIz D.TITO D.TIi1 D.TIi2 hTI, a3, a4, hl1.at fun o e => hk _ o D.l1z D.l1TO D.l1i1 D.l1i2 e, hl2.at fun o e => hk _ o D.l2z D.l2TO D.l2i1 D.l2i2 e,
      .inr ⟨s.heap.objs.size, false, _, a1, a5, lt hz, n1, n2, Nat.ne_of_gt hS⟩⟩ a5 a6 hk
  · refine wpAny_pyNext_zip_item_held D hz hT hTI h1 h2 hl1 hl2 ex ey fun h' a1 a3 a4 a5 a6 hk => ?_
    exact hQ h' ⟨hk _ _ D.TIz D.TIi1 D.TIi2 hTI, a3, a4, hl1.at fun o e => hk _ o D.l1z D.l1i1 D.l1i2 e, hl2.at fun o e => hk _ o D.l2z D.l2i1 D.l2i2 e,
      .inr ⟨T, true, oT, a1, hk _ _ r1 r2 r3 hT, r1, r2, r3, r4⟩⟩ a5 a6 fun c o c1 _ c3 c4 e => hk c o c1 c3 c4 e
theorem zl_done {Q : Option Value → Shared → Prop} (hh : A.handled = none) (D : ZipApart z TI TO i1 i2 l1 l2) (st : ZAt z TI TO i1 i2 l1 l2 S xs ys i s.heap) (hend : xs[i]? = none ∨ ys[i]? = none)
    (hQ : ∀ h', (∀ c o, c ≠ z → c ≠ TO → c ≠ i1 → c ≠ i2 → s.heap.get? c = some o → h'.get? c = some o) → Q none { s with heap := h' }) : wpAny (model prog w) A (pyNext (.ref z)) Q E s := by
  obtain ⟨hTI, h1, h2, hl1, hl2, hz⟩ := st
  rcases hz with ⟨hz, a, b, hTO⟩ | ⟨T, f, oT, hz, hT, r1, r2, r3, r4⟩
  · exact wpAny_pyNext_zip_end hh D hz hTI hTO h1 h2 hl1 hl2 hend hQ
  · exact wpAny_pyNext_zip_end_held hh D hz hT hTI h1 h2 hl1 hl2 hend fun h' hk => hQ h' fun c o c1 _ c3 c4 e => hk c o c1 c3 c4 e
end
section
variable {prog : Program} {w : World} {A : Around} {s : Shared} {R : Result → Shared → Prop} {z TI TO i1 i2 l1 l2 S : Addr} {xs ys : Array Value}
theorem zl_loop (hh : A.handled = none) (D : ZipApart z TI TO i1 i2 l1 l2) (n : S ≠ z ∧ S ≠ TI ∧ S ≠ TO ∧ S ≠ i1 ∧ S ≠ i2 ∧ S ≠ l1 ∧ S ≠ l2) (hxy : xs.size = ys.size) (hn : xs.size ≤ sizeLine) (up : z < S ∧ TO < S ∧ i1 < S ∧ i2 < S) (res : Value) {h₁ : Heap}
    (hR : ∀ h' tk acc c as, (∀ b o, b ≠ S → b ≠ z → b ≠ TO → b ≠ i1 → b ≠ i2 → h₁.get? b = some o → h'.get? b = some o) → h'.get? S = some { cls := .type "list", dict := none, data := .seq acc c, slots := #[] } → as.length = xs.size → PrAt xs ys S h' as →
      acc.toList = as.map Value.ref → R (.ok (.ret res)) { s with heap := h', toks := tk }) :
    ∀ (k i : Nat) (h : Heap) (tk c : Nat) (acc : Array Value) (as : List Addr), xs.size - i = k → i ≤ xs.size → ZAt z TI TO i1 i2 l1 l2 S xs ys i h → (∀ b o, b ≠ S → b ≠ z → b ≠ TO → b ≠ i1 → b ≠ i2 → h₁.get? b = some o → h.get? b = some o) →
      h.get? S = some { cls := .type "list", dict := none, data := .seq acc c, slots := #[] } → acc.toList = as.map Value.ref → as.length = i → PrAt xs ys S h as →
      codeAny (model prog w) A (.builtin "list.extend.loop" ⟨[.ref S, .ref z, res], []⟩) R { s with heap := h, toks := tk } := by
  have away : ∀ a, S < a → a ≠ z ∧ a ≠ TO ∧ a ≠ i1 ∧ a ≠ i2 ∧ a ≠ S := fun a ha =>
    ⟨Nat.ne_of_gt (Nat.lt_trans up.1 ha), Nat.ne_of_gt (Nat.lt_trans up.2.1 ha), Nat.ne_of_gt (Nat.lt_trans up.2.2.1 ha), Nat.ne_of_gt (Nat.lt_trans up.2.2.2 ha), Nat.ne_of_gt ha⟩
  intro k
  induction k with
  | zero =>
    intro i h tk c acc as hk hi hst hkeep hS hacc hal hG
    have hin : i = xs.size := by omega
    refine codeAny_builtin PySem.F.entry_extend_loop ?_
    rw [Around.under_plainId PySem.F.plain_extend_loop _]
    show wpAny _ A.in1 (pyNext (.ref z) >>= _) _ _ _
    refine wpAny_bind (zl_done (s := { s with heap := h, toks := tk }) (A := A.in1) hh D hst (.inl (Array.getElem?_eq_none (by omega))) fun h' he => ?_)
    refine wpAny_pure (hR h' tk acc c as (fun b o h1 h2 h3 h4 h5 e => he b o h2 h3 h4 h5 (hkeep b o h1 h2 h3 h4 h5 e)) (he S _ n.1 n.2.2.1 n.2.2.2.1 n.2.2.2.2.1 hS) (by omega) ⟨hG.rise, hG.above, fun j a hj => ?_⟩ hacc)
    obtain ⟨x, y, e1, e2, e3⟩ := hG.pairs j a hj
    obtain ⟨a1, a2, a3, a4, a5⟩ := away a (hG.above a (List.mem_of_getElem? hj))
    exact ⟨x, y, e1, e2, he a _ a1 a2 a3 a4 e3⟩
  | succ k ih =>
    intro i h tk c acc as hk hi hst hkeep hS hacc hal hG
    have hlt : i < xs.size := by omega
    have hsz : acc.size = i := by rw [← Array.length_toList, hacc, List.length_map, hal]
    refine codeAny_builtin PySem.F.entry_extend_loop ?_
    rw [Around.under_plainId PySem.F.plain_extend_loop _]
    show wpAny _ A.in1 (pyNext (.ref z) >>= _) _ _ _
    refine wpAny_bind (zl_item (s := { s with heap := h, toks := tk }) D hst (Heap.lt_size hS) (Array.getElem?_eq_getElem hlt) (Array.getElem?_eq_getElem (by omega)) fun h' hst' ht hz hkp => ?_)
    dsimp only at ht hz hkp ⊢
    have hS' := hkp S _ n.1 n.2.2.1 n.2.2.2.1 n.2.2.2.2.1 hS
    have upd' : ∀ b o, b ≠ S → h'.get? b = some o → (h'.update S (Obj.mapSeq (·.push (Value.ref h.objs.size)))).get? b = some o := fun b o hb e => (Heap.get?_update_other _ _ (Ne.symm hb)).trans e
    have hSl : S < h.objs.size := Heap.lt_size hS
    show wpAny _ A.in1 (updateSeq S (·.push (Value.ref h.objs.size)) >>= _) _ _ _
    refine wpAny_bind ?_
    refine wpAny_updateSeq hS' rfl (wpAny_pure ⟨plainId_quiet PySem.F.plain_extend_loop _, ih (i + 1) _ tk _ (acc.push (Value.ref h.objs.size)) (as ++ [h.objs.size]) (by omega) hlt (hst'.keep n upd')
      (fun b o h1 h2 h3 h4 h5 e => upd' b o h1 (hkp b o h2 h3 h4 h5 (hkeep b o h1 h2 h3 h4 h5 e))) (Heap.get?_update_self _ hS' rfl) (by rw [Array.toList_push, hacc, List.map_append]; rfl) (by rw [List.length_append, hal]; rfl) ⟨?_, ?_, ?_⟩⟩) (by rw [hsz]; omega) (by show (acc.push (Value.ref h.objs.size)).size ≤ sizeLine + 1; rw [Array.size_push, hsz]; omega)
    · refine List.pairwise_append.mpr ⟨hG.rise, List.pairwise_singleton _ _, fun a ha b hb => ?_⟩
      rw [List.mem_singleton.mp hb]
      obtain ⟨j, hj⟩ := List.mem_iff_getElem?.mp ha
      obtain ⟨_, _, _, _, e⟩ := hG.pairs j a hj
      exact Heap.lt_size e
    · intro a ha
      rcases List.mem_append.mp ha with ha | ha
      · exact hG.above a ha
      · rw [List.mem_singleton.mp ha]; exact hSl
    · intro j b hj
      rcases Nat.lt_trichotomy j as.length with h1 | h1 | h1
      · rw [List.getElem?_append_left h1] at hj
        obtain ⟨x, y, e1, e2, e3⟩ := hG.pairs j b hj
        obtain ⟨a1, a2, a3, a4, a5⟩ := away b (hG.above b (List.mem_of_getElem? hj))
        exact ⟨x, y, e1, e2, upd' b _ a5 (hkp b _ a1 a2 a3 a4 e3)⟩
      · subst h1
        have hb : h.objs.size = b := by simpa using hj
        subst hb
        exact ⟨_, _, by rw [hal]; exact Array.getElem?_eq_getElem hlt, by rw [hal]; exact Array.getElem?_eq_getElem (by omega), upd' _ _ (Nat.ne_of_gt hSl) ht⟩
      · have hnone : (as ++ [h.objs.size])[j]? = none := List.getElem?_eq_none (by rw [List.length_append, List.length_singleton]; omega)
        rw [hnone] at hj; cases hj
end
theorem zip_no_len : typeLookup (.type "zip") "__len__" = pure none := am_miss_of_fast (by decide +kernel)
theorem zip_no_hint : typeLookup (.type "zip") "__length_hint__" = pure none := am_miss_of_fast (by decide +kernel)
section
variable {prog : Program} {w : World} {A : Around} {E : Value → Shared → Prop} {s : Shared} {l1 l2 : Addr} {xs ys : Array Value}
/-- list(z), z a zip that is new -/
theorem zl_call {z TI TO i1 i2 : Addr} {Q : Value → Shared → Prop} (hh : A.handled = none) (D : ZipApart z TI TO i1 i2 l1 l2) (hxy : xs.size = ys.size) (hn : xs.size ≤ sizeLine)
    (hTI : IsPair s.heap TI (.ref i1) (.ref i2)) (hz : IsZip s.heap z TI TO .none) (hTO : IsPair s.heap TO .none .none) (h1 : s.heap.IsListIter i1 l1 0) (h2 : s.heap.IsListIter i2 l2 0) (hl1 : s.heap.IsList l1 xs) (hl2 : s.heap.IsList l2 ys)
    (hQ : ∀ h' tk acc c as, (∀ b o, b ≠ z → b ≠ TO → b ≠ i1 → b ≠ i2 → s.heap.get? b = some o → h'.get? b = some o) → h'.get? s.heap.objs.size = some { cls := .type "list", dict := none, data := .seq acc c, slots := #[] } → as.length = xs.size → PrAt xs ys s.heap.objs.size h' as →
      acc.toList = as.map Value.ref → Q (.ref s.heap.objs.size) { s with heap := h', toks := tk }) :
    wpAny (model prog w) A (call (.type "list") [.ref z]) Q E s := by
  refine callType_codes (Q₁ := fun obj s₁ => obj = .ref s.heap.objs.size ∧ s₁ = { s with heap := s.heap.push { cls := .type "list", data := .seq #[] } }) PySem.F.called_list (PySem.F.typeCall_list_1 _) PySem.F.entry_list_init
    (PySem.code_list_new _ ⟨rfl, rfl⟩) fun obj s₁ h₁ => ?_
  obtain ⟨rfl, rfl⟩ := h₁
  have hS : (s.heap.push { cls := .type "list", data := .seq #[] }).get? s.heap.objs.size = some { cls := .type "list", data := .seq #[] } := Heap.get?_push_size _ rfl
  have lt : ∀ {c o}, s.heap.get? c = some o → c < s.heap.objs.size := fun e => Heap.lt_size e
  have lz := lt hz
  have lTO := lt hTO
  have li1 : i1 < s.heap.objs.size := let ⟨_, e, _⟩ := h1; lt e
  have li2 : i2 < s.heap.objs.size := let ⟨_, e, _⟩ := h2; lt e
  have ll1 : l1 < s.heap.objs.size := let ⟨_, e, _⟩ := hl1; lt e
  have ll2 : l2 < s.heap.objs.size := let ⟨_, e, _⟩ := hl2; lt e
  have n : s.heap.objs.size ≠ z ∧ s.heap.objs.size ≠ TI ∧ s.heap.objs.size ≠ TO ∧ s.heap.objs.size ≠ i1 ∧ s.heap.objs.size ≠ i2 ∧ s.heap.objs.size ≠ l1 ∧ s.heap.objs.size ≠ l2 :=
    ⟨Nat.ne_of_gt lz, Nat.ne_of_gt (lt hTI), Nat.ne_of_gt lTO, Nat.ne_of_gt li1, Nat.ne_of_gt li2, Nat.ne_of_gt ll1, Nat.ne_of_gt ll2⟩
  refine ⟨⟨_, hS, rfl⟩, PySem.F.args_list_init_2 _ _, ?_⟩
  have hSr : s.heap.objs.size ≠ z := n.1
  generalize hSd : s.heap.objs.size = S at *
  show wpAny _ _ (do let old ← Builtin.List.listItems (.ref S); Builtin.List.listUpdate (.ref S) (fun _ => #[]); letGo old.toList.reverse; Builtin.List.listExtendWith (.ref S) (.ref z) .none) _ _ _
  refine wpAny_bind ?_
  unfold Builtin.List.listItems
  refine wpAny_bind (wpAny_seqItems hS rfl (wpAny_pure ?_))
  show wpAny _ _ (updateSeq S (fun _ => #[]) >>= fun _ => letGo (#[] : Array Value).toList.reverse >>= fun _ => Builtin.List.listExtendWith (.ref S) (.ref z) .none) _ _ _
  refine wpAny_bind (wpAny_updateSeq hS rfl ?_)
  have hS₂ := Heap.get?_update_self (Obj.mapSeq (fun _ => (#[] : Array Value))) hS rfl
  have oth : ∀ b o, b ≠ S → s.heap.get? b = some o → ((s.heap.push { cls := .type "list", data := .seq #[] }).update S (Obj.mapSeq (fun _ => (#[] : Array Value)))).get? b = some o :=
    fun b o hb e => (Heap.get?_update_other _ _ (Ne.symm hb)).trans (Heap.get?_push_of_some _ e)
  refine wpAny_bind (wpAny_letGo ?_)
  generalize ((s.heap.push { cls := .type "list", data := .seq #[] }).update S (Obj.mapSeq (fun _ => (#[] : Array Value)))) = g2 at hS₂ oth ⊢
  have hz2 : IsZip g2 z TI TO .none := oth _ _ n.1.symm hz
  have hT2 : Shared.TypeIs { s with heap := g2 } (.ref z) "zip" := ⟨_, hz2, rfl⟩
  unfold Builtin.List.listExtendWith
  refine wpAny_bind (wpAny_typeOf hT2 ?_)
  have q1 : Builtin.List.listSameRef (.ref S) (.ref z) = false := by simp [Builtin.List.listSameRef, hSr]
  have q2 : (Value.type "zip" == Value.type "list") = false := by decide
  have q3 : (Value.type "zip" == Value.type "tuple") = false := by decide
  simp only [q1, q2, q3, Bool.or_false, Bool.false_eq_true, if_false]
  refine wpAny_bind (wpAny_pyIter_zip hz2 ?_)
  refine wpAny_bind (wpAny_holding ?_)
  unfold Builtin.List.listLengthHint
  refine wpAny_bind (wpAny_specialOf hT2 zip_no_len ?_)
  show wpAny _ _ (specialOf (Value.ref z) (Str.ofString "__length_hint__") >>= _) _ _ _
  refine wpAny_bind (wpAny_specialOf hT2 zip_no_hint ?_)
  refine wpAny_pure ?_
  show wpAny _ _ (rule "list.extend.makes-room" >>= fun _ => Builtin.List.listTouch (.ref S) >>= fun _ => again (.builtin "list.extend.loop" ⟨[.ref S, .ref z, .none], []⟩)) _ _ _
  refine wpAny_bind (wpAny_rule ?_)
  refine wpAny_bind ?_
  show wpAny _ _ (updateSeq S (·.push .none) >>= fun _ => updateSeq S (·.pop)) _ _ _
  refine wpAny_bind (wpAny_updateSeq hS₂ rfl ?_)
  have hS₃ := Heap.get?_update_self (Obj.mapSeq (·.push Value.none)) hS₂ rfl
  refine wpAny_updateSeq (hz := by seq_fits) hS₃ rfl ?_
  have hS₄ := Heap.get?_update_self (Obj.mapSeq (·.pop)) hS₃ rfl
  have oth4 : ∀ b o, b ≠ S → s.heap.get? b = some o → ((g2.update S (Obj.mapSeq (·.push Value.none))).update S (Obj.mapSeq (·.pop))).get? b = some o :=
    fun b o hb e => (Heap.get?_update_other _ _ (Ne.symm hb)).trans ((Heap.get?_update_other _ _ (Ne.symm hb)).trans (oth b o hb e))
  refine wpAny_pure ⟨plainId_quiet PySem.F.plain_extend_loop _, ?_⟩
  refine zl_loop (s := s) (h₁ := s.heap) (A := A.in1) hh D n hxy hn ⟨lz, lTO, li1, li2⟩ .none (fun h' tk acc c as hk hS' hl hG hacc => ?_) xs.size 0 _ _ _ #[] [] (Nat.sub_zero _) (Nat.zero_le _) ?_ (fun b o hb _ _ _ _ e => oth4 b o hb e) hS₄ rfl rfl ⟨List.Pairwise.nil, (fun _ ha => nomatch ha), (fun j a hj => by simp at hj)⟩
  · exact ⟨rfl, hQ h' tk acc c as (fun b o h1 h2 h3 h4 e => hk b o (fun q => by have := lt e; rw [q] at this; exact Nat.lt_irrefl _ this) h1 h2 h3 h4 e) hS' hl hG hacc⟩
  · exact ⟨oth4 _ _ n.2.1.symm hTI, h1.at fun o e => oth4 _ o n.2.2.2.1.symm e, h2.at fun o e => oth4 _ o n.2.2.2.2.1.symm e, hl1.at fun o e => oth4 _ o n.2.2.2.2.2.1.symm e, hl2.at fun o e => oth4 _ o n.2.2.2.2.2.2.symm e,
      .inl ⟨oth4 _ _ n.1.symm hz, _, _, oth4 _ _ n.2.2.1.symm hTO⟩⟩
end
end M3

namespace M3
open PySem PySem.Spec L2
open PyProof.Rows hiding St
/-! ### many pairs laid at once -/
def layT (H : Hp) : List (Addr × (V × V)) → Hp
  | [] => H
  | (a, (x, y)) :: ts => upd (layT H ts) a (.tup [x, y])
theorem layT_ne {H : Hp} {b : Addr} : ∀ {ts : List (Addr × (V × V))}, (∀ t ∈ ts, t.1 ≠ b) → layT H ts b = H b
  | [], _ => rfl
  | (a, (x, y)) :: ts, h => by
    unfold layT
    rw [upd_ne (fun z => h _ List.mem_cons_self z.symm)]
    exact layT_ne fun t ht => h t (List.mem_cons_of_mem _ ht)
theorem layT_at {H : Hp} {b : Addr} {x y : V} : ∀ {ts : List (Addr × (V × V))}, (ts.map (·.1)).Nodup → (b, (x, y)) ∈ ts → layT H ts b = some (.tup [x, y])
  | [], _, h => by cases h
  | (a, (u, v)) :: ts, nd, h => by
    unfold layT
    rcases List.mem_cons.mp h with e | h
    · cases e; exact upd_same
    · have n : b ≠ a := fun z => (List.nodup_cons.mp nd).1 (List.mem_map.mpr ⟨_, h, z⟩)
      rw [upd_ne n]
      exact layT_at (List.nodup_cons.mp nd).2 h
theorem layT_some {H : Hp} {b : Addr} {o : HO} : ∀ {ts : List (Addr × (V × V))}, layT H ts b = some o → H b = none → ∃ x y, (b, (x, y)) ∈ ts ∧ o = .tup [x, y]
  | [], h, n => by unfold layT at h; rw [n] at h; cases h
  | (a, (u, v)) :: ts, h, n => by
    unfold layT at h
    by_cases e : b = a
    · subst e; rw [upd_same] at h; cases h; exact ⟨u, v, List.mem_cons_self, rfl⟩
    · rw [upd_ne e] at h
      obtain ⟨x, y, m, r⟩ := layT_some h n
      exact ⟨x, y, List.mem_cons_of_mem _ m, r⟩
theorem EnR.layMany {C : Ct} {Hf H : Hp} {w : Own} {σ : L2.St} {ε : En} {o : Addr → Prop} (E : EnR C Hf H w σ ε) : ∀ {ts : List (Addr × (V × V))}, (ts.map (·.1)).Nodup → (∀ t ∈ ts, H t.1 = none) → EnR C (layT Hf ts) (layT H ts) w σ ε ∧ Stp Hf H o (layT Hf ts) (layT H ts) o
  | [], _, _ => ⟨E, Stp.refl⟩
  | (a, (x, y)) :: ts, nd, fr => by
    obtain ⟨E1, s1⟩ := E.layMany (o := o) (ts := ts) (List.nodup_cons.mp nd).2 fun t ht => fr t (List.mem_cons_of_mem _ ht)
    have n : layT H ts a = none := by
      rw [layT_ne fun t ht z => (List.nodup_cons.mp nd).1 (List.mem_map.mpr ⟨t, ht, z⟩)]
      exact fr _ List.mem_cons_self
    exact ⟨E1.lay n, s1.trans (Stp.lay E1.sub n)⟩
/-- a heap that has grown, new things of it told -/
theorem inv_more {X : Cx} {pins : List (Addr × Obj)} {σ : L2.St} {H H' : Hp} {s : Shared} {h' : Heap} {t' : Nat} (I : Inv X pins σ H s) (k : ∀ b u, s.heap.get? b = some u → h'.get? b = some u) (same : ∀ b, b < s.heap.objs.size → H' b = H b)
    (new : ∀ b o, s.heap.objs.size ≤ b → H' b = some o → ObjOk X.prog X.w H' h' b o) : Inv X pins σ H' { s with heap := h', toks := t' } := by
  have old : ∀ b o, H b = some o → H' b = some o := fun b o e => by rw [same b (I.hok.lt e)]; exact e
  refine I.un ⟨fun b o e _ _ _ => k b o e, fun b o e _ _ _ => ⟨o.slots, k b o e⟩, fun b o e n _ => by rw [same b (Heap.lt_size e)]; exact n, fun b o e _ => ⟨o, k b o e⟩, fun b xs e => old b _ e, fun b o u e => old b _ e, fun b ps e => ⟨#[], by rw [Array.append_empty]; exact old b _ e⟩⟩ fun b o e => ?_
  by_cases hb : b < s.heap.objs.size
  · rw [same b hb] at e
    exact (I.hok b o e).stay (fun c v _ r => k c v r) (fun c r => old c _ r) fun c xs r => old c _ r
  · exact new b o (Nat.le_of_not_lt hb) e
/-! ### list(zip(xs, ys)) -/
def tLZ (K : PySem.W.Frag) (ta : TA) : TE := fun σ H Q => ta σ H fun vs H1 => ∃ (a b : Addr) (xs ys : List V), vs = [.ref a, .ref b] ∧ SqL K H1 a xs ∧ SqL K H1 b ys ∧ xs.length = ys.length ∧
  ∀ (L : Addr) (as : List Addr), as.length = xs.length → as.Nodup → L ∉ as → H1 L = none → (∀ t ∈ as, H1 t = none) → Q (.ref L) (upd (layT H1 (as.zip (xs.zip ys))) L (.lst (as.map V.ref)))
theorem vals_refs : ∀ as : List Addr, Vals (as.map V.ref) (as.map Value.ref)
  | [] => .nil
  | _ :: as => .cons rfl (vals_refs as)
theorem pe_listZip {X : Cx} {e e2 : Expr} {ta : TA} {p p2 pos pos2 : Pos} (hg : Gl X "list") (hm : X.mg "list" = none) (hgz : Gl X "zip") (hmz : X.mg "zip" = none) (ha : PA X [e, e2] ta) (hc : X.calm = true := by rfl)
    (hs : starEach [e, e2] X.env = (false, eval e X.env) :: starEach [e2] X.env := by rfl) (hpl : (backTo pos2 (starEach [e2] X.env)).any (·.1) = false := by rfl) :
    PE X (.Call (.Name "list" p) [.Call (.Name "zip" p2) [e, e2] [] pos2] [] pos) (tLZ X.K ta) := by
  refine ⟨fun pins s σ H Q I h => ?_⟩
  refine Call_ (ld_blt I hg hm PyProof.Rows.boot_list (PyProof.Rows.callWith_type1 ?_ (by rfl) (by rfl)))
  show wpAny _ _ (spliced ((false, eval (.Call (.Name "zip" p2) [e, e2] [] pos2) X.env) :: backTo pos (starEach [] X.env))) _ _ s
  refine Calls.spliced_cons ?_
  refine Call_ (ld_blt I hgz hmz PyProof.Rows.boot_zip (PyProof.Rows.callWith_type1 (thn (ha.run pos2 pins s σ H _ I h) fun us s1 ⟨vs, H1, I1, r1, q1⟩ => ?_) hs hpl))
  obtain ⟨a, b, xs, ys, ex, hqx, hqy, hxy, q1⟩ := q1
  subst ex
  cases r1 with
  | cons r rr =>
    cases rr with
    | cons r' rr =>
      cases rr
      cases r
      cases r'
      obtain ⟨its, rv, p1, z1⟩ := I1.list hqx
      obtain ⟨its2, rv2, p2', z2⟩ := I1.list hqy
      refine call_zip_2 p1.isList p2'.isList fun h' hz hTI hTO h1 h2 hsz hk => ?_
      refine Calls.spliced_nil ?_
      have D := PySem.W.ktu_apart s1.heap.objs.size a b p1.lt p2'.lt
      refine zl_call (s := { s1 with heap := h' }) (I1.ok.hd hc) D (xs := its.toArray) (ys := its2.toArray) (by rw [List.size_toArray, List.size_toArray, ← rv.length, ← rv2.length]; exact hxy) (by rw [List.size_toArray, ← rv.length]; exact z1) hTI hz hTO h1 h2 (p1.isList.at fun o e => hk _ o e) (p2'.isList.at fun o e => hk _ o e) fun h'' tk acc c as kp hS hl hG hacc => ?_
      dsimp only at hS hG ⊢
      have kk : ∀ b u, s1.heap.get? b = some u → h''.get? b = some u := fun b u e => by
        have lt := Heap.lt_size e
        have up : ∀ n : Nat, b ≠ s1.heap.objs.size + n := fun n => Nat.ne_of_lt (Nat.lt_of_lt_of_le lt (Nat.le_add_right _ _))
        exact kp b u (up 4) (up 3) (Nat.ne_of_lt lt) (up 1) (hk b u e)
      have hl' : as.length = xs.length := by rw [hl, List.size_toArray, rv.length]
      have ab : ∀ t ∈ as, s1.heap.objs.size ≤ t := fun t ht => by
        have := hG.above t ht
        rw [hsz] at this
        exact Nat.le_of_lt (Nat.lt_of_le_of_lt (Nat.le_add_right _ 5) this)
      have nd : as.Nodup := hG.rise.imp fun h => Nat.ne_of_lt h
      have nL : h'.objs.size ∉ as := fun z => Nat.lt_irrefl _ (hG.above _ z)
      have fr : ∀ b, s1.heap.objs.size ≤ b → H1 b = none := fun b hb => I1.hok.fresh hb
      have lz : (as.zip (xs.zip ys)).map (·.1) = as := by
        rw [List.map_fst_zip]
        rw [List.length_zip, ← hxy, Nat.min_self]
        exact Nat.le_of_eq hl'
      have mem : ∀ t ∈ as.zip (xs.zip ys), t.1 ∈ as := fun t ht => by rw [← lz]; exact List.mem_map.mpr ⟨t, ht, rfl⟩
      have low : ∀ b, b < s1.heap.objs.size → b ≠ h'.objs.size := fun b hb z => by
        rw [z, hsz] at hb
        exact Nat.lt_irrefl _ (Nat.lt_of_le_of_lt (Nat.le_add_right _ 5) hb)
      have I2 : Inv X pins σ (upd (layT H1 (as.zip (xs.zip ys))) h'.objs.size (.lst (as.map V.ref))) { s1 with heap := h'', toks := tk } := by
        refine inv_more I1 kk (fun b hb => ?_) (fun b o hb e => ?_)
        · rw [upd_ne (low b hb), layT_ne fun t ht z => by have := ab _ (mem t ht); rw [z] at this; exact Nat.lt_irrefl _ (Nat.lt_of_lt_of_le hb this)]
        · by_cases eb : b = h'.objs.size
          · subst eb
            rw [upd_same] at e
            cases e
            exact ⟨by rw [List.length_map, hl']; exact z1, as.map Value.ref, c, vals_refs as, by rw [hS, ← hacc]⟩
          · rw [upd_ne eb] at e
            obtain ⟨x, y, m, rfl⟩ := layT_some e (fr b hb)
            obtain ⟨j, hj⟩ := List.mem_iff_getElem?.mp m
            obtain ⟨j1, j2⟩ := List.getElem?_zip_eq_some.mp hj
            obtain ⟨j3, j4⟩ := List.getElem?_zip_eq_some.mp j2
            obtain ⟨u, v, g1, g2, g3⟩ := hG.pairs j b j1
            obtain ⟨u', w1, w2⟩ := rv.get j3
            obtain ⟨v', w3, w4⟩ := rv2.get j4
            obtain rfl : u = u' := by simpa [w1] using g1.symm
            obtain rfl : v = v' := by simpa [w3] using g2.symm
            exact ⟨by show 2 ≤ sizeLine; decide, [u, v], .cons w2 (.cons w4 .nil), ⟨_, g3, rfl, _, rfl⟩⟩
      exact ⟨.ref h'.objs.size, _, I2, rfl, q1 _ as hl' nd nL (fr _ (by rw [hsz]; exact Nat.le_add_right _ 5)) fun t ht => fr t (ab t ht)⟩
def zipT (xs ys : List D) : List D := (xs.zip ys).map fun p => .tuple [p.1, p.2]
def mListZip (ms : M (List D)) : M RV := fun ε => (ms ε).bind fun ds ε1 => match ds with
  | [.list xs, .list ys] => if xs.length = ys.length then .ok (.new (.lst (zipT xs ys))) ε1 else .bad
  | _ => .bad
theorem dq_zip {K : PySem.W.Frag} {Hf Hf' : Hp} (sm : Same Hf Hf') : ∀ {as : List Addr} {us vs : List V} {xs ys : List D}, DqAll K Hf us xs → DqAll K Hf vs ys → as.length = us.length → us.length = vs.length → (∀ a x y, (a, (x, y)) ∈ as.zip (us.zip vs) → Hf' a = some (.tup [x, y])) → DqAll K Hf' (as.map V.ref) (zipT xs ys)
  | [], _, _, _, _, .nil, .nil, _, _, _ => .nil
  | a :: as, _, _, _, _, .cons h1 t1, .cons h2 t2, l1, l2, k => by
    refine .cons (.tup (.inl (.inl (k a _ _ ?_))) (.cons (h1.mono sm) (.cons (h2.mono sm) .nil))) (dq_zip sm t1 t2 (by simpa using l1) (by simpa using l2) fun b x y m => k b x y ?_)
    · simp
    · simp only [List.zip_cons_cons]; exact List.mem_cons_of_mem _ m
theorem me_listZip {X : Cx} {C : Ct} {e e2 : Expr} {ta : TA} {ms : M (List D)} {p p2 pos pos2 : Pos} (hm : X.mg "list" = none) (hmz : X.mg "zip" = none) (ha : MDs X C [e, e2] ta ms) (hg : Gl X "list" := by rfl) (hgz : Gl X "zip" := by rfl) (hc : X.calm = true := by rfl)
    (hs : starEach [e, e2] X.env = (false, eval e X.env) :: starEach [e2] X.env := by rfl) (hpl : (backTo pos2 (starEach [e2] X.env)).any (·.1) = false := by rfl) :
    ME X C (.Call (.Name "list" p) [.Call (.Name "zip" p2) [e, e2] [] pos2] [] pos) (tLZ C.K ta) (mListZip ms) := by
  refine ⟨by have q := pe_listZip (p := p) (pos := pos) (p2 := p2) hg hm hgz hmz ha.pa hc hs hpl; rw [ha.hK] at q; exact q, ?_, ha.hK⟩
  refine Snd.bind (Rel1 := relDs) (t1 := ta) (t2 := fun vs σ H1 (Q : VK) => ∃ (a b : Addr) (xs ys : List V), vs = [.ref a, .ref b] ∧ SqL C.K H1 a xs ∧ SqL C.K H1 b ys ∧ xs.length = ys.length ∧
    ∀ (L : Addr) (as : List Addr), as.length = xs.length → as.Nodup → L ∉ as → H1 L = none → (∀ t ∈ as, H1 t = none) → Q (.ref L) (upd (layT H1 (as.zip (xs.zip ys))) L (.lst (as.map V.ref)))) ha.sn fun Hf H w σ ε S b a Q E rb P => ?_
  split at P
  · rename_i xs ys
    split at P
    · rename_i hl
      obtain ⟨_, rb⟩ := rb
      cases rb with
      | cons d1 r =>
        cases r with
        | cons d2 r =>
          cases r
          cases d1 with
          | lst a1 b1 =>
            cases d2 with
            | lst a2 b2 =>
              rename_i pa us pb vs
              refine ⟨pa, pb, us, vs, rfl, SqL.of (E.sub _ _ a1), SqL.of (E.sub _ _ a2), by rw [b1.length, b2.length]; exact hl, fun L as l1 nd nL hL ht => ?_⟩
              have l2 : us.length = vs.length := by rw [b1.length, b2.length]; exact hl
              have lz : (as.zip (us.zip vs)).map (·.1) = as := by
                rw [List.map_fst_zip]
                rw [List.length_zip, ← l2, Nat.min_self]
                exact Nat.le_of_eq l1
              have nd' : ((as.zip (us.zip vs)).map (·.1)).Nodup := by rw [lz]; exact nd
              have mem : ∀ t ∈ as.zip (us.zip vs), t.1 ∈ as := fun t ht => by rw [← lz]; exact List.mem_map.mpr ⟨t, ht, rfl⟩
              obtain ⟨E1, s1⟩ := E.layMany (o := O w) nd' fun t h => ht _ (mem t h)
              have hL1 : layT H (as.zip (us.zip vs)) L = none := by
                rw [layT_ne fun t h z => nL (by rw [← z]; exact mem t h)]
                exact hL
              refine P _ _ w (fun x => x = L) (.ref L) (E1.layNew hL1) (s1.trans (Stp.layNew hL1)) ⟨L, rfl, ⟨fun _ => Iff.rfl, as.map V.ref, upd_same, dq_zip s1.mono b1 b2 l1 l2 fun a x y m => layT_at nd' m⟩, fun x z => ?_, fun i x hw z => E1.nw hL1 i x hw z⟩
              rw [z]; exact same_none E1.sub hL1
    · exact P.elim
  · exact P.elim
theorem vs_of {vs vs1 : List Nat} (h : vs1.all (fun i => vs.contains i) = true) : ∀ i, vs1.contains i = true → vs.contains i = true := fun i hi => by
  rw [List.all_eq_true] at h
  exact h i (by simpa using hi)
/-! ### None, left out -/
def msAppN (ms : M (List RV)) : M (List RV) := fun ε => (ms ε).bind fun rs ε1 => .ok (rs ++ [.fro .none]) ε1
theorem me_callN {X : Cx} {C : Ct} {e : Expr} {es : List Expr} {tr : TA} {ms : M (List RV)} {pos : Pos} {CX : CXT} {k : Nat} {x : Str} {n : Nat} {F : M RV} {p : Pos} (K : Cal X.prog X.w X.K X.mg X.base CX k x n [.non] F) (hr : Room k X.A) (hgd : X.A.guards = some []) (hx : PassW CX X C.W) (ha : MAs X C (e :: es) tr ms) (hg : Gl X x := by rfl)
    (hdb : (x == ("__debug__" : Str)) = false := by decide) (he : starEach (e :: es) X.env = (false, eval e X.env) :: starEach es X.env := by rfl) (hpl : (backTo pos (starEach es X.env)).any (·.1) = false := by rfl) :
    ME X C (.Call (.Name x p) (e :: es) [] pos) (tCallG (spM C.K n F) [.non] (WE C.W) tr) (mCall n F (msAppN ms)) := by
  obtain ⟨f, fd, ps, ds, h1, h2, h3, h4, h5⟩ := K.ex
  refine ⟨?_, ?_, ha.hK⟩
  · have q := pe_callG (pos := pos) (p := p) h5 hr hgd hg h1 h2 h4 h3 hx ha.pa hdb he hpl
    rw [ha.hK] at q
    exact q
  · have sn : Snd C relOs (fun σ H (Q : List V → Hp → Prop) => tr σ H fun vs H1 => Q (vs ++ [.non]) H1) (msAppN ms) :=
      Snd.bind (t2 := fun (vs : List V) (σ : L2.St) H1 (Q : List V → Hp → Prop) => Q (vs ++ [.non]) H1) ha.sn fun Hf H w σ ε S b a Q E rb P => P.here E ⟨fun _ z => z, rb.2.app2 (.cons .non .nil)⟩
    exact snd_call (n := n) (F := F) (C := C) (E := WE C.W) (fun _ _ _ _ z => z) sn
@[simp] theorem x_appN {ms : M (List RV)} {ε : En} : msAppN ms ε = (ms ε).bind fun rs ε1 => .ok (rs ++ [.fro .none]) ε1 := rfl
/-! ### what the new loops come to -/
theorem lc2_map {α : Type} {p p1 : Pat} {vs vs1 : List Nat} {c c1 : M Bool} {mi1 : M (List D)} {m : M D} {g : α → D} {k : α → List D} {ε : En} : ∀ {xs : List α} {acc : List D}, (∀ x ∈ xs, ∃ ε1 ε2 ds1 ε3, bindP p (g x) ε = some ε1 ∧ c ε1 = .ok true ε2 ∧ mi1 ε2 = .ok ds1 ε3 ∧
      ∀ acc : List D, acc.length + (k x).length ≤ sizeLine → ∃ ε4, lcLoop p1 vs1 c1 m ds1 acc (wipeE ε3 vs1) = .ok (acc ++ k x) ε4 ∧ wipeE ε4 vs = ε) → acc.length + (xs.flatMap k).length ≤ sizeLine →
    lcLoop2 p vs c mi1 p1 vs1 c1 m (xs.map g) acc ε = .ok (acc ++ xs.flatMap k) ε
  | [], acc, _, _ => by unfold lcLoop2; simp
  | x :: xs, acc, h, hl => by
    obtain ⟨ε1, ε2, ds1, ε3, h1, h2, h3, h4⟩ := h x List.mem_cons_self
    rw [List.flatMap_cons, List.length_append] at hl
    obtain ⟨ε4, e4, e5⟩ := h4 acc (by omega)
    rw [List.map_cons]
    unfold lcLoop2
    rw [h1]
    simp only [h2, h3, e4]
    rw [e5, lc2_map (fun x hx => h x (List.mem_cons_of_mem _ hx)) (by rw [List.length_append]; omega)]
    simp
theorem putD_len (kvs : List (Key × D)) (k : Key) (d : D) : (putD kvs k d).length ≤ kvs.length + 1 := by
  unfold putD
  split
  · simp
  · simp
theorem dc_map {α : Type} {p : Pat} {vs : List Nat} {mk mv : M D} {g v : α → D} {ky : α → Key} {ε : En} : ∀ {xs : List α} {acc : List (Key × D)}, (∀ x ∈ xs, ∃ ε1 y ε2 ε3, bindP p (g x) ε = some ε1 ∧ mk ε1 = .ok y ε2 ∧ mv ε2 = .ok (v x) ε3 ∧ keyD y = some (ky x) ∧ wipeE ε3 vs = ε) → acc.length + xs.length ≤ sizeLine →
    dcLoop p vs mYes mk mv (xs.map g) acc ε = .ok (xs.foldl (fun a x => putD a (ky x) (v x)) acc) ε
  | [], acc, _, _ => by unfold dcLoop; rfl
  | x :: xs, acc, h, hl => by
    obtain ⟨ε1, y, ε2, ε3, h1, h2, h3, h4, h5⟩ := h x List.mem_cons_self
    rw [List.length_cons] at hl
    rw [List.map_cons]
    unfold dcLoop
    rw [h1]
    have := putD_len acc (ky x) (v x)
    simp only [x_yes, h2, h3, h4]
    rw [if_pos (by omega), h5, dc_map (fun x hx => h x (List.mem_cons_of_mem _ hx)) (by omega)]
    rfl
theorem valD_cons (a : Key × D) (kvs : List (Key × D)) (j : Key) : valD (a :: kvs) j = if a.1 = j then some a.2 else valD kvs j := by
  unfold valD
  rw [List.find?_cons]
  by_cases h : a.1 = j
  · simp [h]
  · simp [h]
theorem valD_over (k j : Key) (d : D) : ∀ kvs : List (Key × D), valD (kvs.map fun kv => if kv.1 = k then (kv.1, d) else kv) j = if k = j then (valD kvs j).map (fun _ => d) else valD kvs j
  | [] => by simp [valD]
  | a :: kvs => by
    rw [List.map_cons, valD_cons, valD_cons, valD_over k j d kvs]
    by_cases e : a.1 = k
    · by_cases e2 : k = j
      · simp [e, e2]
      · simp [e, e2]
    · by_cases e2 : a.1 = j
      · have : ¬ k = j := fun z => e (e2.trans z.symm)
        rw [if_neg e, if_pos e2, if_neg this, if_pos e2]
      · simp [e, e2]
theorem valD_any (k : Key) : ∀ kvs : List (Key × D), (kvs.any fun kv => decide (kv.1 = k)) = (valD kvs k).isSome
  | [] => rfl
  | a :: kvs => by
    rw [List.any_cons, valD_cons, valD_any k kvs]
    by_cases e : a.1 = k
    · simp [e]
    · simp [e]
theorem valD_snoc (k j : Key) (d : D) : ∀ kvs : List (Key × D), valD (kvs ++ [(k, d)]) j = (valD kvs j).or (if k = j then some d else none)
  | [] => by rw [List.nil_append, valD_cons]; simp [valD]
  | a :: kvs => by
    rw [List.cons_append, valD_cons, valD_cons, valD_snoc k j d kvs]
    by_cases e : a.1 = j
    · simp [e]
    · simp [e]
theorem valD_put (kvs : List (Key × D)) (k j : Key) (d : D) : valD (putD kvs k d) j = if k = j then some d else valD kvs j := by
  unfold putD
  rw [valD_any]
  split
  · rename_i h
    rw [valD_over]
    by_cases e : k = j
    · subst e
      obtain ⟨x, hx⟩ := Option.isSome_iff_exists.mp h
      simp [hx]
    · simp [e]
  · rename_i h
    rw [valD_snoc]
    by_cases e : k = j
    · subst e
      have : valD kvs k = none := by simpa using h
      simp [this]
    · simp [e]
/-- what a dict made of many holds -/
theorem valD_fold {α : Type} (ky : α → Key) (v : α → D) (j : Key) : ∀ (xs : List α) (acc : List (Key × D)), (valD (xs.foldl (fun a x => putD a (ky x) (v x)) acc) j).isSome = (xs.any (fun x => decide (ky x = j)) || (valD acc j).isSome)
  | [], acc => by simp
  | x :: xs, acc => by
    rw [List.foldl_cons, valD_fold ky v j xs, valD_put, List.any_cons]
    by_cases e : ky x = j
    · simp [e]
    · simp [e]
@[simp] theorem x_lc2 {mi mi1 : M (List D)} {p p1 : Pat} {vs vs1 : List Nat} {c c1 : M Bool} {m : M D} {ε : En} : mLc2 mi p vs c mi1 p1 vs1 c1 m ε = (mi ε).bind fun ds ε1 => match lcLoop2 p vs c mi1 p1 vs1 c1 m ds [] (wipeE ε1 vs) with
  | .ok acc ε2 => .ok (.new (.lst acc)) (restE ε1 ε2 vs)
  | _ => .bad := rfl
@[simp] theorem x_dc {mi : M (List D)} {p : Pat} {vs : List Nat} {c : M Bool} {mk mv : M D} {ε : En} : mDc mi p vs c mk mv ε = (mi ε).bind fun ds ε1 => match dcLoop p vs c mk mv ds [] (wipeE ε1 vs) with
  | .ok acc ε2 => .ok (.new (.dct acc)) (restE ε1 ε2 vs)
  | _ => .bad := rfl
@[simp] theorem x_listZip {ms : M (List D)} {ε : En} : mListZip ms ε = (ms ε).bind fun ds ε1 => match ds with
  | [.list xs, .list ys] => if xs.length = ys.length then .ok (.new (.lst (zipT xs ys))) ε1 else .bad
  | _ => .bad := rfl
end M3

namespace M3
open PySem PySem.Spec L2
open PyProof.Rows hiding St
/-! ### a comprehension over a name's list, which stays its owner's -/
def lstAt (ε : En) (i : Nat) : Option (List D) := match ε[i]? with
  | some (some (.own (.lst E))) => some E
  | some (some (.fro (.list E))) => some E
  | _ => none
theorem EnR.lstAt {C : Ct} {Hf H : Hp} {w : Own} {σ : L2.St} {ε : En} (E : EnR C Hf H w σ ε) {i : Nat} {ds : List D} (e : M3.lstAt ε i = some ds) : ∃ p vs, σ[i]? = some (some (.ref p)) ∧ SqL C.K H p vs ∧ DqAll C.K Hf vs ds := by
  unfold M3.lstAt at e
  split at e
  · rename_i E0 h
    cases e
    obtain ⟨p, vs, h1, h2, h3, _⟩ := E.ownLst h
    exact ⟨p, vs, h1, SqL.of h2, h3⟩
  · rename_i E0 h
    cases e
    have q := E.slot i
    rw [h] at q
    obtain ⟨_, v, h1, h2⟩ := q
    cases h2 with
    | lst a b => exact ⟨_, _, h1, SqL.of (E.sub _ _ a), b⟩
  · cases e
def lcLoopO (i n : Nat) (p : Pat) (vs : List Nat) (c : M Bool) (m : M D) : Nat → List D → En → R (List D)
  | 0, acc, ε => match lstAt ε i with
    | some E => if E.length = n then .ok acc ε else .bad
    | none => .bad
  | f + 1, acc, ε => match lstAt ε i with
    | some E => if E.length = n then (match E[n - (f + 1)]? with
      | some d => (match bindP p d ε with
        | none => .bad
        | some ε1 => match c ε1 with
          | .ok true ε2 => (match m ε2 with
            | .ok y ε3 => if acc.length < sizeLine then lcLoopO i n p vs c m f (acc ++ [y]) (wipeE ε3 vs) else .bad
            | _ => .bad)
          | .ok false ε2 => lcLoopO i n p vs c m f acc (wipeE ε2 vs)
          | _ => .bad)
      | none => .bad) else .bad
    | none => .bad
def mLcO (i : Nat) (p : Pat) (vs : List Nat) (c : M Bool) (m : M D) : M RV := fun ε => match lstAt ε i with
  | some E => (match lcLoopO i E.length p vs c m E.length [] (wipeE ε vs) with
    | .ok acc ε2 => .ok (.new (.lst acc)) (restE ε ε2 vs)
    | _ => .bad)
  | none => .bad
theorem loopO_at {i n : Nat} {p : Pat} {vs : List Nat} {c : M Bool} {m : M D} {f : Nat} {acc a : List D} {ε ε2 : En} (e : lcLoopO i n p vs c m f acc ε = .ok a ε2) : ∃ E, lstAt ε i = some E ∧ E.length = n := by
  cases f with
  | zero =>
    unfold lcLoopO at e
    split at e
    · rename_i E h
      split at e
      · rename_i h2; exact ⟨E, h, h2⟩
      · cases e
    · cases e
  | succ f =>
    unfold lcLoopO at e
    split at e
    · rename_i E h
      split at e
      · rename_i h2; exact ⟨E, h, h2⟩
      · cases e
    · cases e
theorem snd_lcO {C C' : Ct} {i : Nat} {g : TG} {vs : List Nat} {p : Pat} {tt : TT} {c : M Bool} {te : TE} {m : M D} (hi : vs.contains i = false) (hv : ∀ i, vs.contains i = true → C.own.contains i = false)
    (hK : C'.K = C.K) (ho : C'.own = C.own) (hvs : C'.vs = C.vs) (hg : PatS C' g vs p) (hc : Snd C' relB tt c) (he : Snd C' relD te m) : Snd C relRV (tLc (iList C.K (tVar i)) g tt te vs) (mLcO i p vs c m) := by
  intro Hf H w σ ε Q E P
  unfold mLcO at P
  split at P
  rotate_left
  · exact P.elim
  rename_i E0 e0
  obtain ⟨p0, us, h1, h2, h3⟩ := E.lstAt e0
  refine ⟨.ref p0, h1, p0, rfl, ⟨us, h2⟩, fun D hD => ?_⟩
  have hfD : Hf D = none := same_none E.sub hD
  have wi : (wipe σ vs)[i]? = some (some (.ref p0)) := by rw [wipe_get, hi, if_neg (by simp)]; exact h1
  cases eL : lcLoopO i E0.length p vs c m E0.length [] (wipeE ε vs) with
  | bad => rw [eL] at P; exact P.elim
  | err x ε2 => rw [eL] at P; exact P.elim
  | ok accF εF =>
  rw [eL] at P
  replace P : PostX C relRV Hf H w σ Q (.ok (.new (.lst accF)) (restE ε εF vs)) := P
  have Ew := ((E.wiped hv).recast (C' := C') hK ho hvs)
  have hv' : ∀ i, vs.contains i = true → C'.own.contains i = false := by rw [ho]; exact hv
  have wk : Walk (Itl C.K p0) E0.length (fun H' => ∃ xs, SqL C.K H' p0 xs ∧ xs.length = E0.length) (fun k H' x H'' => H'' = H' ∧ ∀ xs, SqL C.K H' p0 xs → xs[k]? = some x) :=
    ⟨fun k H' hk ⟨xs, q, l⟩ => ⟨xs, xs[k]'(by omega), q, by simp [List.getElem?_eq_getElem (show k < xs.length by omega)]⟩, fun H' ⟨xs, q, l⟩ => ⟨xs, q, Nat.le_of_eq l⟩, fun _ _ _ _ _ _ y => y⟩
  have at0 : ∀ {Hf' H' : Hp} {w' : Own} {ε' : En} {Ru : Hp → HO → Prop} {ds : List M3.D}, LcP C' Hf H (O (wWipe w vs)) D (wipe σ vs) Hf' H' w' ε' Ru → M3.lstAt ε' i = some ds → ∃ xs, SqL C.K H' p0 xs ∧ DqAll C.K Hf' xs ds := fun q e => by
    obtain ⟨p1, us1, a1, a2, a3⟩ := q.E.lstAt e
    rw [wi] at a1
    cases a1
    rw [hK] at a2 a3
    exact ⟨us1, a2, a3⟩
  refine walk_any (B := fun Nx x H' => g x (wipe σ vs) H' fun σ2 H2 => wipe σ2 vs = wipe σ vs ∧ tt σ2 H2 fun b H3 =>
      if b = true then te σ2 H3 fun y H4 => ∃ acc, H4 D = some (.lst acc) ∧ acc.length < sizeLine ∧ Nx (upd H4 D (.lst (acc ++ [y]))) else Nx H3) wk
    (fun k H' => ∃ Hf' w' ε' acc, LcP C' Hf H (O (wWipe w vs)) D (wipe σ vs) Hf' H' w' ε' (RuL C'.K acc) ∧ lcLoopO i E0.length p vs c m (E0.length - k) acc ε' = .ok accF εF) ?_ ?_ ?_ ?_
  · exact ⟨Hf, wWipe w vs, wipeE ε vs, [], ⟨Ew.layNew hD, ⟨_, upd_same, _, rfl, .nil⟩, RuL.mono, hfD, fun i a z => E.nw hD i a z.2, Stp.layNew hD⟩, by rw [Nat.sub_zero]; exact eL⟩
  · rintro k H' _ ⟨Hf', w', ε', acc, q, el⟩
    obtain ⟨ds, d1, d2⟩ := loopO_at el
    obtain ⟨xs, a1, a2⟩ := at0 q d1
    exact ⟨xs, a1, by rw [a2.length]; exact d2⟩
  · rintro k x H' H'' hk ⟨Hf', w', ε', acc, q, el⟩ ⟨rfl, y⟩
    have ek : E0.length - k = (E0.length - (k + 1)) + 1 := by omega
    rw [ek] at el
    obtain ⟨ds, d1, d2⟩ := loopO_at el
    obtain ⟨xs, a1, a2⟩ := at0 q d1
    unfold lcLoopO at el
    rw [d1] at el
    dsimp only at el
    rw [if_pos d2, show E0.length - (E0.length - (k + 1) + 1) = k by omega] at el
    have hx := y xs a1
    obtain ⟨d, hd, dq⟩ := a2.get hx
    rw [hd] at el
    dsimp only at el
    rw [← hK] at dq
    cases e : bindP p d ε' with
    | none => rw [e] at el; cases el
    | some ε1 =>
    rw [e] at el
    dsimp only at el
    refine q.bind hg dq e fun σ3 w3 q3 on3 => ?_
    have ow : wipe σ3 vs = wipe σ vs := by rw [only_wipe on3, only_wipe wipe_only]
    refine ⟨ow, ?_⟩
    cases ec : c ε1 with
    | bad => rw [ec] at el; cases el
    | err x4 ε4 => rw [ec] at el; cases el
    | ok b ε2 =>
    rw [ec] at el
    refine q3.run hc ec fun Hf4 w4 S4 b4 H4 sm4 r4 q4 => ?_
    obtain ⟨_, rfl⟩ := r4
    cases b4 with
    | false =>
      dsimp only at el
      rw [if_neg (by simp)]
      have q5 := q4.wiped hv'
      rw [ow] at q5
      exact ⟨Hf4, _, _, acc, q5, el⟩
    | true =>
      dsimp only at el
      rw [if_pos rfl]
      cases em : m ε2 with
      | bad => rw [em] at el; cases el
      | err x5 ε5 => rw [em] at el; cases el
      | ok y5 ε3 =>
      rw [em] at el
      dsimp only at el
      refine q4.run he em fun Hf5 w5 S5 b5 H5 sm5 r5 q5 => ?_
      split at el
      · rename_i hlen
        obtain ⟨_, hD5, av, rfl, dqa⟩ := q5.at_
        have q7 := (q5.put (Ru' := RuL C'.K (acc ++ [y5])) ⟨_, rfl, dqa.append (.cons r5.2 .nil)⟩ RuL.mono).wiped hv'
        rw [ow] at q7
        exact ⟨av, hD5, by rw [dqa.length]; exact hlen, Hf5, _, _, _, q7, el⟩
      · cases el
  · rintro H' ⟨Hf', w', ε', acc, q, el⟩
    rw [Nat.sub_self] at el
    obtain ⟨ds, d1, d2⟩ := loopO_at el
    unfold lcLoopO at el
    rw [d1] at el
    dsimp only at el
    rw [if_pos d2] at el
    cases el
    obtain ⟨w7, E7, st7, nw7⟩ := LcP.back E hD q hK ho hvs
    obtain ⟨_, g1, av, rfl, g2⟩ := q.at_
    exact P Hf' H' w7 (fun x => x = D) (.ref D) E7 st7 ⟨D, rfl, ⟨fun _ => Iff.rfl, av, g1, by rw [← hK]; exact g2⟩, fun a z => by rw [z]; exact q.hf, nw7⟩
section
variable {X : Cx} {C : Ct} {pos : Pos}
theorem me_lcO {x : Str} {px : Pos} {elt tg : Expr} {ifs : List Expr} {scope : Scope} {own : List (Str × Nat)} {g : TG} {tt : TT} {te : TE} {p : Pat} {c1 : M Bool} {mm : M D} (vs : List Nat) (i : Nat) (ok : BlkOk X.N X.env.scope scope own) (hN : X.N.Nodup)
    (hv : ∀ i, vs.contains i = true → C.own.contains i = false)
    (hg : ∀ (s : Shared) (H : Hp) (A : Addr) (cl : List (Str × Addr)) (fp : List Addr), MG (X.blk s H scope (compEnvC scope cl A X.env) fp) ⟨C.K, C.own, C.vs, noW⟩ vs tg g p)
    (ht : ∀ (s : Shared) (H : Hp) (A : Addr) (cl : List (Str × Addr)) (fp : List Addr), PTs (X.blk s H scope (compEnvC scope cl A X.env) fp) ifs tt ∧ Snd ⟨C.K, C.own, C.vs, noW⟩ relB tt c1)
    (he : ∀ (s : Shared) (H : Hp) (A : Addr) (cl : List (Str × Addr)) (fp : List Addr), MD (X.blk s H scope (compEnvC scope cl A X.env) fp) ⟨C.K, C.own, C.vs, noW⟩ elt te mm)
    (hx : X.N[i]? = some x := by rfl) (hvis : Vis X.env.scope x := by first | exact Or.inl rfl | exact Or.inr (Or.inl rfl) | exact Or.inr (Or.inr rfl)) (hd : (x == ("__debug__" : Str)) = false := by decide)
    (hcd : (x == ("__classdict__" : Str)) = false := by decide) (hK : X.K = C.K := by rfl)
    (hvs : own.map (·.2) = vs := by rfl) (hin : vs.contains i = false := by rfl) (hc : X.calm = true := by rfl) (hs : ∀ y, foldedSetIterable (.Name x px) X.env y = pure y := by intro _; rfl) :
    ME X C (.ListComp elt [⟨tg, .Name x px, ifs, 0⟩] scope pos) (tLc (iList C.K (tVar i)) g tt te vs) (mLcO i p vs c1 mm) := by
  obtain ⟨gs, _⟩ : PatS ⟨C.K, C.own, C.vs, noW⟩ g vs p ∧ True := ⟨(hg X.s_0 X.H_0 0 [] []).sn, trivial⟩
  refine ⟨?_, snd_lcO (C' := ⟨C.K, C.own, C.vs, noW⟩) hin hv rfl rfl rfl gs (ht X.s_0 X.H_0 0 [] []).2 (he X.s_0 X.H_0 0 [] []).sn, hK⟩
  have q := pe_lc (pos := pos) hc hN (pi_list (pe_var (pos := px) hx hvis hd hcd)) ok (fun s H A cl fp => (hg s H A cl fp).pg) (fun s H A cl fp => (ht s H A cl fp).1) (fun s H A cl fp => (he s H A cl fp).pe) hs
  rw [hvs, hK] at q
  exact q
end
@[simp] theorem x_lcO {i : Nat} {p : Pat} {vs : List Nat} {c : M Bool} {m : M D} {ε : En} : mLcO i p vs c m ε = match lstAt ε i with
  | some E => (match lcLoopO i E.length p vs c m E.length [] (wipeE ε vs) with
    | .ok acc ε2 => .ok (.new (.lst acc)) (restE ε ε2 vs)
    | _ => .bad)
  | none => .bad := rfl
theorem lcO_map {α : Type} {i : Nat} {p : Pat} {vs : List Nat} {m : M D} {g f : α → D} {ε : En} {xs : List α} (h0 : lstAt ε i = some (xs.map g)) (hz : xs.length ≤ sizeLine) (h : ∀ x ∈ xs, ∃ ε1 ε3, bindP p (g x) ε = some ε1 ∧ m ε1 = .ok (f x) ε3 ∧ wipeE ε3 vs = ε) :
    ∀ (k : Nat), k ≤ xs.length → lcLoopO i xs.length p vs mYes m k ((xs.take (xs.length - k)).map f) ε = .ok (xs.map f) ε
  | 0, _ => by
    unfold lcLoopO
    rw [h0]
    simp
  | k + 1, hk => by
    obtain ⟨x, hx⟩ : ∃ x, xs[xs.length - (k + 1)]? = some x := ⟨_, List.getElem?_eq_getElem (by omega)⟩
    obtain ⟨ε1, ε3, h1, h2, h3⟩ := h x (List.mem_of_getElem? hx)
    have e2 : (xs.map g)[xs.length - (k + 1)]? = some (g x) := by rw [List.getElem?_map, hx]; rfl
    have e3 : ((xs.take (xs.length - (k + 1))).map f ++ [f x]) = (xs.take (xs.length - k)).map f := by
      rw [show xs.length - k = xs.length - (k + 1) + 1 by omega, List.take_add_one, hx, List.map_append]
      rfl
    unfold lcLoopO
    rw [h0]
    simp only [List.length_map, if_true, e2, h1, h2, x_yes]
    rw [if_pos (by rw [List.length_take]; omega), e3, h3]
    exact lcO_map h0 hz h k (by omega)
end M3

namespace GC
open PySem PySem.Spec L2 M3 M4 M5
open PyProof.Rows hiding St
def B_table_place : Sm := (sSeq (sFor (mEnum (dsCons (fE (oE (mVar 0))) dsNil)) (.tp [(.nm 2), (.tp [(.nm 3), (.nm 4)])]) (sIf (mBl (mOp (bo gEq) (oE (mVar 3)) (oE (mVar 1)))) (sRet (mVar 2)) sNext))
    (sRaise "NoSuch" ["what", "name"] (dsCons (fE (oE (mC (.str "table")))) (dsCons (fE (oE (mVar 1))) dsNil))))
def F_table_place : M RV := fnF [0, 1] 5 (B_table_place)
def B_columns_of : Sm := (sRet (mOp gIx (oE (mOp gIx (oE (mVar 0)) (oE (mCall 2 F_table_place (msCons (oE (mVar 0)) (msCons (oE (mVar 1)) msNil)))))) (oE (mC (.int 1)))))
def F_columns_of : M RV := fnF [0, 1] 2 (B_columns_of)
def B_column_place : Sm := (sSeq (sFor (mEnum (dsCons (fE (oE (mCall 2 F_columns_of (msCons (oE (mVar 0)) (msCons (oE (mVar 1)) msNil))))) dsNil)) (.tp [(.nm 3), (.tp [(.nm 4), (.nm 5)])]) (sIf (mBl (mOp (bo gEq) (oE (mVar 4)) (oE (mVar 2)))) (sRet (mVar 3)) sNext))
    (sRaise "NoSuch" ["what", "name"] (dsCons (fE (oE (mC (.str "column")))) (dsCons (fE (oE (mVar 2))) dsNil))))
def F_column_place : M RV := fnF [0, 1, 2] 6 (B_column_place)
def B_rows_of : Sm := (sRet (mOp gIx (oE (mVar 1)) (oE (mCall 2 F_table_place (msCons (oE (mVar 0)) (msCons (oE (mVar 2)) msNil))))))
def F_rows_of : M RV := fnF [0, 1, 2] 3 (B_rows_of)
def B_law_box : Sm := (sSeq (sSet 2 (mIfE (mBl (mOp (bo gLt) (oE (mVar 1)) (oE (mScrLen 0)))) (mScrIx 0 (oE (mVar 1))) (mC (.int 0))))
    (sRet (mLst (dsCons (fE (oE (mOp gMul (oE (mCallB gAbs (msCons (oE (mVar 2)) msNil))) (oE (mCallB gInt (msCons (oE (mOp (bo gGe) (oE (mCallB gAbs (msCons (oE (mVar 2)) msNil))) (oE (mOp gPow (oE (mC (.int 10))) (oE (mC (.int 18))))))) msNil)))))) (dsCons (fE (oE (mOp gAdd (oE (mOp gAdd (oE (mOp gMod (oE (mVar 2)) (oE (mC (.int 2305843009213693951))))) (oE (mOp gMul (oE (mC (.int 39373))) (oE (mVar 1)))))) (oE (mC (.int 17)))))) (dsCons (fE (oE (mC (.int 0)))) dsNil))))))
def F_law_box : M RV := fnF [0, 1] 3 (B_law_box)
def B_law_take : Sm := (sSeq (sIf (mBl (mOp (bo gGt) (oE (mOp gIx (oE (mVar 0)) (oE (mC (.int 0))))) (oE (mC (.int 0))))) (sSeq (sSet 2 (mOp gMod (oE (mOp gIx (oE (mVar 0)) (oE (mC (.int 0))))) (oE (mVar 1))))
    (sSeq (sSetItem 0 (oE (mC (.int 0))) (fE (oE (mOp gDiv (oE (mOp gIx (oE (mVar 0)) (oE (mC (.int 0))))) (oE (mVar 1))))))
    (sRet (mVar 2)))) sNext)
    (sSeq (sSetItem 0 (oE (mC (.int 2))) (fE (oE (mOp gAdd (oE (mOp gIx (oE (mVar 0)) (oE (mC (.int 2))))) (oE (mC (.int 1)))))))
    (sSeq (sSet 3 (mOp gMod (oE (mOp gPow (oE (mOp gAdd (oE (mOp gIx (oE (mVar 0)) (oE (mC (.int 1))))) (oE (mOp gMul (oE (mC (.int 39373))) (oE (mOp gIx (oE (mVar 0)) (oE (mC (.int 2))))))))) (oE (mC (.int 5))))) (oE (mC (.int 2147483647)))))
    (sRet (mOp gMod (oE (mOp gDiv (oE (mOp gMod (oE (mOp gAdd (oE (mOp gMul (oE (mVar 3)) (oE (mOp gAdd (oE (mOp gMod (oE (mVar 3)) (oE (mC (.int 40009))))) (oE (mC (.int 7))))))) (oE (mOp gMul (oE (mOp gIx (oE (mVar 0)) (oE (mC (.int 2))))) (oE (mC (.int 7919))))))) (oE (mC (.int 2147483629))))) (oE (mC (.int 64))))) (oE (mVar 1)))))))
def F_law_take : M RV := fnF [0, 1] 4 (B_law_take)
def B_law_names : Sm := (sSeq (sUnp (fE (oE (mTup (dsCons (fE (oE (mC (.str "abcdefghijklmnopqrstuvwxyz")))) (dsCons (fE (oE (mCall 2 F_law_take (msCons (oE (mVar 0)) (msCons (oE (mC (.int 676))) msNil))))) (dsCons (fE (oE (mCall 2 F_law_take (msCons (oE (mVar 0)) (msCons (oE (mC (.int 5))) msNil))))) dsNil)))))) (.tp [(.nm 2), (.nm 3), (.nm 4)]))
    (sSeq (sSet 5 (mOp gIx (oE (mLst (dsCons (fE (oE (mC (.int 1)))) (dsCons (fE (oE (mC (.int 3)))) (dsCons (fE (oE (mC (.int 5)))) (dsCons (fE (oE (mC (.int 7)))) (dsCons (fE (oE (mC (.int 25)))) (dsCons (fE (oE (mC (.int 675)))) dsNil)))))))) (oE (mCall 2 F_law_take (msCons (oE (mVar 0)) (msCons (oE (mC (.int 6))) msNil))))))
    (sSeq (sIf (mBl (mOp (bo gEq) (oE (mVar 4)) (oE (mC (.int 0))))) (sSeq (sSet 6 (mBM gSplit (oE (mC (.str "store row put drop set tie rule table old new to gone"))) (msCons (oE (mC (.str " "))) msNil)))
    (sRet (mSl gSl (oE (mSl gSl (oE (mOp gAdd (oE (mVar 6)) (oE (mVar 6)))) (mPart (oE (mOp gMod (oE (mVar 3)) (oE (mC (.int 12)))))) mNoPart)) mNoPart (mPart (oE (mVar 1)))))) sNext)
    (sSeq (sIf (mBl (mOp (bo gEq) (oE (mVar 4)) (oE (mC (.int 1))))) (sRet (mLc (mRng1 (msCons (oE (mVar 1)) msNil)) (.nm 7) [7] mYes (fE (oE (mOp gIx (oE (mVar 2)) (oE (mOp gMod (oE (mOp gAdd (oE (mVar 3)) (oE (mOp gMul (oE (mVar 5)) (oE (mVar 7)))))) (oE (mC (.int 26)))))))))) sNext)
    (sSeq (sSet 8 (mBM gJoin (oE (mC (.str ""))) (msCons (oE (mLc (mRng1 (msCons (oE (mCall 2 F_law_take (msCons (oE (mVar 0)) (msCons (oE (mC (.int 4))) msNil)))) msNil)) (.nm 9) [9] mYes (fE (oE (mOp gIx (oE (mVar 2)) (oE (mCall 2 F_law_take (msCons (oE (mVar 0)) (msCons (oE (mC (.int 26))) msNil))))))))) msNil)))
    (sSeq (sSet 10 (mBM gJoin (oE (mC (.str ""))) (msCons (oE (mLc (mRng1 (msCons (oE (mCall 2 F_law_take (msCons (oE (mVar 0)) (msCons (oE (mC (.int 3))) msNil)))) msNil)) (.nm 9) [9] mYes (fE (oE (mOp gIx (oE (mVar 2)) (oE (mCall 2 F_law_take (msCons (oE (mVar 0)) (msCons (oE (mC (.int 26))) msNil))))))))) msNil)))
    (sSeq (sPar [11, 12] (msCons (mCall 2 F_law_take (msCons (oE (mVar 0)) (msCons (oE (mC (.int 2))) msNil))) (msCons (mLst dsNil) msNil)))
    (sSeq (sFor (mRng1 (msCons (oE (mVar 1)) msNil)) (.nm 7) (sSeq (sSet 13 (mOp gMod (oE (mOp gAdd (oE (mVar 3)) (oE (mOp gMul (oE (mVar 5)) (oE (mVar 7)))))) (oE (mC (.int 676)))))
    (sSeq (sSet 14 (mOp gAdd (oE (mOp gAdd (oE (mOp gAdd (oE (mVar 8)) (oE (mOp gIx (oE (mVar 2)) (oE (mOp gDiv (oE (mVar 13)) (oE (mC (.int 26))))))))) (oE (mOp gIx (oE (mVar 2)) (oE (mOp gMod (oE (mVar 13)) (oE (mC (.int 26))))))))) (oE (mVar 10))))
    (sSeq (sIf (mAnd (mBl (mOp (bo gEq) (oE (mVar 11)) (oE (mC (.int 1))))) (mBl (mOp (bo gEq) (oE (mOp gMod (oE (mVar 7)) (oE (mC (.int 2))))) (oE (mC (.int 1)))))) (sSet 14 (mOp gAdd (oE (mOp gIx (oE (mVar 12)) (oE (mUn gNeg (oE (mC (.int 1))))))) (oE (mOp gIx (oE (mVar 2)) (oE (mOp gMod (oE (mOp gAdd (oE (mVar 3)) (oE (mVar 7)))) (oE (mC (.int 26))))))))) sNext)
    (sAppend 12 (fE (oE (mVar 14))))))))
    (sRet (mVar 12))))))))))
def F_law_names : M RV := fnF [0, 1] 15 (B_law_names)
def B_law_tables : Sm := (sSeq (sPar [2, 3] (msCons (mLst dsNil) (msCons (mCall 2 F_law_names (msCons (oE (mVar 0)) (msCons (oE (mC (.int 5))) msNil))) msNil)))
    (sSeq (sFor (mIt (fE (oE (mCall 2 F_law_names (msCons (oE (mVar 0)) (msCons (oE (mOp gAdd (oE (mC (.int 1))) (oE (mCall 2 F_law_take (msCons (oE (mVar 0)) (msCons (oE (mVar 1)) msNil)))))) msNil)))))) (.nm 4) (sSeq (sSet 5 (mSl gSl (oE (mOp gIx (oE (mLst (dsCons (fE (oE (mVar 3))) (dsCons (fE (oE (mCall 2 F_law_names (msCons (oE (mVar 0)) (msCons (oE (mC (.int 5))) msNil))))) dsNil)))) (oE (mCall 2 F_law_take (msCons (oE (mVar 0)) (msCons (oE (mC (.int 2))) msNil)))))) mNoPart (mPart (oE (mOp gAdd (oE (mC (.int 1))) (oE (mCall 2 F_law_take (msCons (oE (mVar 0)) (msCons (oE (mC (.int 5))) msNil)))))))))
    (sSeq (sSet 6 (mLst (dsCons (fE (oE (mTup (dsCons (fE (oE (mOp gIx (oE (mVar 5)) (oE (mC (.int 0)))))) (dsCons (fE (oE (mC .none))) dsNil))))) dsNil)))
    (sSeq (sFor (mIt (fE (oE (mSl gSl (oE (mVar 5)) (mPart (oE (mC (.int 1)))) mNoPart)))) (.nm 7) (sAppend 6 (fE (oE (mTup (dsCons (fE (oE (mVar 7))) (dsCons (fE (oE (mOp gIx (oE (mLst (dsCons (fE (oE (mC .none))) (dsCons (fE (oE (mOp M3.gSub (oE (mCall 2 F_law_take (msCons (oE (mVar 0)) (msCons (oE (mC (.int 9))) msNil)))) (oE (mC (.int 3)))))) (dsCons (fE (oE (mOp gPow (oE (mC (.int 10))) (oE (mC (.int 9)))))) dsNil))))) (oE (mCall 2 F_law_take (msCons (oE (mVar 0)) (msCons (oE (mC (.int 3))) msNil))))))) dsNil)))))))
    (sAppend 2 (fE (oE (mTup (dsCons (fE (oE (mVar 4))) (dsCons (fE (oE (mCallB gTuple (msCons (oE (mVar 6)) msNil)))) dsNil))))))))))
    (sRet (mCallB gTuple (msCons (oE (mVar 2)) msNil)))))
def F_law_tables : M RV := fnF [0, 1] 8 (B_law_tables)
def B_law_ties : Sm := (sSeq (sPar [3, 4] (msCons (mLst dsNil) (msCons (mLst (dsCons (fE (oE (mC (.str "bar")))) (dsCons (fE (oE (mC (.str "carry")))) (dsCons (fE (oE (mC (.str "empty")))) (dsCons (fE (oE (mC (.str "fallback")))) (dsCons (fE (oE (mC (.str "look")))) (dsCons (fE (oE (mC (.str "carry")))) dsNil))))))) msNil)))
    (sSeq (sFor (mIt (fE (oE (mCall 2 F_law_names (msCons (oE (mVar 0)) (msCons (oE (mCall 2 F_law_take (msCons (oE (mVar 0)) (msCons (oE (mOp gAdd (oE (mVar 2)) (oE (mC (.int 1))))) msNil)))) msNil)))))) (.nm 5) (sSeq (sUnp (fE (oE (mOp gIx (oE (mVar 1)) (oE (mCall 2 F_law_take (msCons (oE (mVar 0)) (msCons (oE (mCallB gLen (msCons (oE (mVar 1)) msNil))) msNil))))))) (.tp [(.nm 6), (.nm 7)]))
    (sSeq (sSet 8 (mCallB gMax (msCons (oE (mC (.int 0))) (msCons (oE (mCallB gMin (msCons (oE (mOp M3.gSub (oE (mCallB gLen (msCons (oE (mVar 7)) msNil))) (oE (mC (.int 1))))) (msCons (oE (mOp M3.gSub (oE (mCall 2 F_law_take (msCons (oE (mVar 0)) (msCons (oE (mC (.int 6))) msNil)))) (oE (mC (.int 1))))) msNil)))) msNil))))
    (sSeq (sPar [9, 10] (msCons (mOp gIx (oE (mVar 4)) (oE (mCall 2 F_law_take (msCons (oE (mVar 0)) (msCons (oE (mC (.int 6))) msNil))))) (msCons (mOp gIx (oE (mVar 4)) (oE (mCall 2 F_law_take (msCons (oE (mVar 0)) (msCons (oE (mC (.int 6))) msNil))))) msNil)))
    (sSeq (sIf (mBl (mOp (bo gEq) (oE (mVar 8)) (oE (mC (.int 0))))) (sPar [9, 10] (msCons (mOp gIx (oE (mLst (dsCons (fE (oE (mC (.str "bar")))) (dsCons (fE (oE (mC (.str "carry")))) (dsCons (fE (oE (mC (.str "look")))) dsNil))))) (oE (mCall 2 F_law_take (msCons (oE (mVar 0)) (msCons (oE (mC (.int 3))) msNil))))) (msCons (mOp gIx (oE (mLst (dsCons (fE (oE (mC (.str "bar")))) (dsCons (fE (oE (mC (.str "carry")))) (dsCons (fE (oE (mC (.str "look")))) dsNil))))) (oE (mCall 2 F_law_take (msCons (oE (mVar 0)) (msCons (oE (mC (.int 3))) msNil))))) msNil))) sNext)
    (sSeq (sPar [11, 12] (msCons (mOp gIx (oE (mOp gIx (oE (mVar 1)) (oE (mCall 2 F_law_take (msCons (oE (mVar 0)) (msCons (oE (mCallB gLen (msCons (oE (mVar 1)) msNil))) msNil)))))) (oE (mC (.int 0)))) (msCons (mOp gIx (oE (mLst (dsCons (fE (oE (mC (.str "once")))) (dsCons (fE (oE (mC (.str "end")))) dsNil)))) (oE (mCall 2 F_law_take (msCons (oE (mVar 0)) (msCons (oE (mC (.int 2))) msNil))))) msNil)))
    (sAppend 3 (fE (oE (mTup (dsCons (fE (oE (mVar 5))) (dsCons (fE (oE (mVar 6))) (dsCons (fE (oE (mOp gIx (oE (mOp gIx (oE (mVar 7)) (oE (mVar 8)))) (oE (mC (.int 0)))))) (dsCons (fE (oE (mVar 11))) (dsCons (fE (oE (mVar 9))) (dsCons (fE (oE (mVar 10))) (dsCons (fE (oE (mVar 12))) dsNil)))))))))))))))))
    (sRet (mCallB gTuple (msCons (oE (mVar 3)) msNil)))))
def F_law_ties : M RV := fnF [0, 1, 2] 13 (B_law_ties)
def B_law_place : Sm := (sRet (mBML gIndex (oE (mLc (mIt (fE (oE (mVar 0)))) (.tp [(.nm 2), (.nm 3)]) [2, 3] mYes (fE (oE (mVar 2))))) (msCons (oE (mVar 1)) msNil)))
def F_law_place : M RV := fnF [0, 1] 4 (B_law_place)
def B_law_column : Sm := (sRet (mBML gIndex (oE (mLc (mIt (fE (oE (mOp gIx (oE (mOp gIx (oE (mVar 0)) (oE (mCall 2 F_law_place (msCons (oE (mVar 0)) (msCons (oE (mVar 1)) msNil)))))) (oE (mC (.int 1))))))) (.tp [(.nm 3), (.nm 4)]) [3, 4] mYes (fE (oE (mVar 3))))) (msCons (oE (mVar 2)) msNil)))
def F_law_column : M RV := fnF [0, 1, 2] 5 (B_law_column)
def B_law_content : Sm := (sSeq (sPar [4, 5] (msCons (mLst dsNil) (msCons (mLst dsNil) msNil)))
    (sSeq (sFor (mIt (fE (oE (mVar 1)))) (.nm 6) (sSeq (sSet 7 (mLc (mRng1 (msCons (oE (mCall 2 F_law_take (msCons (oE (mVar 0)) (msCons (oE (mOp gAdd (oE (mVar 3)) (oE (mC (.int 1))))) msNil)))) msNil)) (.nm 8) [8] mYes (fE (oE (mOp M3.gSub (oE (mCall 2 F_law_take (msCons (oE (mVar 0)) (msCons (oE (mC (.int 12))) msNil)))) (oE (mC (.int 3))))))))
    (sAppend 4 (fE (oE (mSortSet (oE (mOp gAdd (oE (mVar 7)) (oE (mOp gMul (oE (mLst (dsCons (fE (oE (mOp gPow (oE (mC (.int 10))) (oE (mC (.int 9)))))) dsNil))) (oE (mCallB gInt (msCons (oE (mOp (bo gEq) (oE (mCall 2 F_law_take (msCons (oE (mVar 0)) (msCons (oE (mC (.int 9))) msNil)))) (oE (mC (.int 0))))) msNil)))))))))))))
    (sSeq (sFor (mEnum (dsCons (fE (oE (mVar 1))) dsNil)) (.tp [(.nm 9), (.tp [(.nm 6), (.nm 10)])]) (sSeq (sSet 11 (mLst dsNil))
    (sSeq (sFor (mIt (fE (oE (mOp gIx (oE (mVar 4)) (oE (mVar 9)))))) (.nm 12) (sSeq (sSet 13 (mLst (dsCons (fE (oE (mVar 12))) dsNil)))
    (sSeq (sFor (mIt (fE (oE (mSl gSl (oE (mVar 10)) (mPart (oE (mC (.int 1)))) mNoPart)))) (.tp [(.nm 14), (.nm 15)]) (sSeq (sSet 16 (mLc (mIt (fE (oE (mVar 2)))) (.nm 17) [17] (mBl (mOp (bo gEq) (oE (mSl gSl (oE (mVar 17)) (mPart (oE (mC (.int 1)))) (mPart (oE (mC (.int 3)))))) (oE (mTup (dsCons (fE (oE (mVar 6))) (dsCons (fE (oE (mVar 14))) dsNil)))))) (fE (oE (mOp gIx (oE (mVar 17)) (oE (mC (.int 3))))))))
    (sSeq (sSet 7 (mLst (dsCons (fE (oE (mC (.int 0)))) (dsCons (fE (oE (mC (.int 1)))) (dsCons (fE (oE (mC (.int 2)))) dsNil)))))
    (sSeq (sIf (mBl (mOp (bo gNe) (oE (mVar 16)) (oE (mLst dsNil)))) (sSet 7 (mOp gIx (oE (mVar 4)) (oE (mCall 2 F_law_place (msCons (oE (mVar 1)) (msCons (oE (mOp gIx (oE (mVar 16)) (oE (mCall 2 F_law_take (msCons (oE (mVar 0)) (msCons (oE (mCallB gLen (msCons (oE (mVar 16)) msNil))) msNil)))))) msNil)))))) sNext)
    (sSeq (sSet 18 (mOp gAdd (oE (mLst (dsCons (fE (oE (mC .none))) (dsCons (fE (oE (mVar 15))) (dsCons (fE (oE (mOp M3.gSub (oE (mCall 2 F_law_take (msCons (oE (mVar 0)) (msCons (oE (mC (.int 12))) msNil)))) (oE (mC (.int 3)))))) dsNil))))) (oE (mSl gSl (oE (mOp gAdd (oE (mOp gAdd (oE (mVar 7)) (oE (mVar 7)))) (oE (mVar 7)))) mNoPart (mPart (oE (mC (.int 24))))))))
    (sAppend 13 (fE (oE (mOp gIx (oE (mVar 18)) (oE (mCall 2 F_law_take (msCons (oE (mVar 0)) (msCons (oE (mCallB gLen (msCons (oE (mVar 18)) msNil))) msNil)))))))))))))
    (sAppend 11 (fE (oE (mCallB gTuple (msCons (oE (mVar 13)) msNil))))))))
    (sAppend 5 (fE (oE (mVar 11)))))))
    (sRet (mVar 5)))))
def F_law_content : M RV := fnF [0, 1, 2, 3] 19 (B_law_content)
def B_law_same (G : M RV) : Sm := (sSeq (sIf (mTru (oE (mIsi2 "list" "tuple" (oE (mVar 1))))) (sSeq (sIf (mOr (mBl (mOp (bo gNe) (oE (mIsi "list" (oE (mVar 0)))) (oE (mIsi "list" (oE (mVar 1)))))) (mBl (mOp (bo gNe) (oE (mIsi "tuple" (oE (mVar 0)))) (oE (mIsi "tuple" (oE (mVar 1))))))) (sRet (mC (.bool false))) sNext)
    (sRet (mAndV (oE (mOp (bo gEq) (oE (mCallB gLen (msCons (oE (mVar 0)) msNil))) (oE (mCallB gLen (msCons (oE (mVar 1)) msNil))))) (mCallB gAll (msCons (oE (mLc (mZip (dsCons (fE (oE (mVar 0))) (dsCons (fE (oE (mVar 1))) dsNil))) (.tp [(.nm 2), (.nm 3)]) [2, 3] mYes (fE (oE (mCall 2 G (msCons (oE (mVar 2)) (msCons (oE (mVar 3)) msNil))))))) msNil))))) sNext)
    (sSeq (sIf (mOr (mBl (mOp (bo gIsN) (oE (mVar 1)) (oE (mC .none)))) (mTru (oE (mIsi2 "bool" "str" (oE (mVar 1)))))) (sRet (mAndV (oE (mOp (bo gEq) (oE (mVar 0)) (oE (mVar 1)))) (mAndV (oE (mOp (bo gEq) (oE (mIsi "bool" (oE (mVar 0)))) (oE (mIsi "bool" (oE (mVar 1)))))) (mOp (bo gEq) (oE (mOp (bo gIsN) (oE (mVar 0)) (oE (mC .none)))) (oE (mOp (bo gIsN) (oE (mVar 1)) (oE (mC .none)))))))) sNext)
    (sRet (mAndV (oE (mIsi "int" (oE (mVar 0)))) (mAndV (oE (mNotV (oE (mIsi "bool" (oE (mVar 0)))))) (mOp (bo gEq) (oE (mVar 0)) (oE (mVar 1))))))))
def F_law_same : Nat → M RV
  | 0 => fun _ => .bad
  | n + 1 => fnF [0, 1] 4 (B_law_same (F_law_same n))
end GC

namespace GC
open PySem PySem.Spec L2 M3 M4 M5
open PyProof.Rows hiding St
/-- a box after so many draws -/
def Bx (T : Int) (L : List D) : Prop := ∃ a b c : Int, 0 ≤ a ∧ 0 ≤ b ∧ b < 2306000000000000000 ∧ 0 ≤ c ∧ c ≤ T ∧ L = [.int a, .int b, .int c]
theorem Bx.mono {T U : Int} {L : List D} (h : Bx T L) (e : T ≤ U) : Bx U L := by
  obtain ⟨a, b, c, h1, h2, h3, h4, h5, h6⟩ := h
  exact ⟨a, b, c, h1, h2, h3, h4, by omega, h6⟩
abbrev sB (L : List D) : Option SV := some (.own (.lst L))
theorem takeB {T m : Int} {L : List D} (h : Bx T L) (hT : T < 900000) (hm : 0 < m) (hm2 : m < 2 ^ 60) :
    ∃ k L', 0 ≤ k ∧ k < m ∧ Bx (T + 1) L' ∧ F_law_take [sB L, fI m] = .ok (.fro (.int k)) [sB L', fI m] := by
  obtain ⟨a, b, c, a0, b0, b1, c0, cT, rfl⟩ := h
  have g0 : ∀ a b c : Int, gIx (.list [.int a, .int b, .int c]) (.int 0) = some (.val (.int a)) := fun a b c => by simp [gIx, atI, ixN]
  have g1 : ∀ a b c : Int, gIx (.list [.int a, .int b, .int c]) (.int 1) = some (.val (.int b)) := fun a b c => by simp [gIx, atI, ixN]
  have g2 : ∀ a b c : Int, gIx (.list [.int a, .int b, .int c]) (.int 2) = some (.val (.int c)) := fun a b c => by simp [gIx, atI, ixN]
  by_cases ha : 0 < a
  · have e1 := gMod_i (a := a) hm
    have e2 := gDiv_i (a := a) hm (lg hm hm2)
    exact ⟨a % m, [.int (a / m), .int b, .int c], Int.emod_nonneg _ (by omega), Int.emod_lt_of_pos _ hm, ⟨a / m, b, c, Int.ediv_nonneg a0 (by omega), b0, b1, c0, by omega, rfl⟩, by simp [F_law_take, B_law_take, g0, gI, ha, e1, e2, ixN]⟩
  · have h0 : a = 0 := by omega
    subst h0
    have m1 : gMul (.int 39373) (.int (c + 1)) = some (.val (.int (39373 * (c + 1)))) := gMul_i (by omega)
    have p1 : gPow (.int (b + 39373 * (c + 1))) (.int 5) = some (.val (.int ((b + 39373 * (c + 1)) ^ (5 : Int).toNat))) := by
      show (if _ then _ else _) = _
      rw [if_pos ⟨by omega, by omega, by omega⟩]
    generalize (b + 39373 * (c + 1)) ^ (5 : Int).toNat = w at p1
    have d1 := gMod_i (a := w) (b := 2147483647) (by omega)
    obtain ⟨x, hx⟩ : ∃ x, x = w % 2147483647 := ⟨_, rfl⟩
    have x0 : 0 ≤ x := by rw [hx]; exact Int.emod_nonneg _ (by omega)
    have x1 : x < 2147483647 := by rw [hx]; exact Int.emod_lt_of_pos _ (by omega)
    rw [← hx] at d1
    have d2 := gMod_i (a := x) (b := 40009) (by omega)
    obtain ⟨y, hy⟩ : ∃ y, y = x % 40009 := ⟨_, rfl⟩
    have y0 : 0 ≤ y := by rw [hy]; exact Int.emod_nonneg _ (by omega)
    have y1 : y < 40009 := by rw [hy]; exact Int.emod_lt_of_pos _ (by omega)
    rw [← hy] at d2
    have m2 : gMul (.int x) (.int (y + 7)) = some (.val (.int (x * (y + 7)))) := gMul_i (by omega)
    have m3 : gMul (.int (c + 1)) (.int 7919) = some (.val (.int ((c + 1) * 7919))) := gMul_i (by omega)
    have d3 := gMod_i (a := x * (y + 7) + (c + 1) * 7919) (b := 2147483629) (by omega)
    generalize (x * (y + 7) + (c + 1) * 7919) % 2147483629 = u at *
    have q2 := gDiv_i (a := u) (b := 64) (by omega) (lg (by omega) (by omega))
    have d4 := gMod_i (a := u / 64) hm
    refine ⟨u / 64 % m, [.int 0, .int b, .int (c + 1)], Int.emod_nonneg _ (by omega), Int.emod_lt_of_pos _ hm, ⟨0, b, c + 1, by omega, b0, b1, by omega, by omega, rfl⟩, ?_⟩
    simp [F_law_take, B_law_take, g0, g1, g2, gI, gAdd_i, ixN, m1, p1, d1, d2, m2, m3, d3, q2, d4]
theorem fn_rn {own : List Nat} {N : Nat} {body : Sm} {ε E ε' εo : En} {o : OV} (hp : parOk own 0 ε = true) (hl : ε.length ≤ N) (hE : ε ++ List.replicate (N - ε.length) none = E) (hb : body E = .rt (.new o) ε') (ho : outE own ε' 0 ε = εo) : fnF own N body ε = .ok (.new o) εo := by
  rw [x_fnF, if_pos ⟨hp, hl⟩, hE, hb, ← ho]
theorem boxC (ns : List Int) (k : Nat) (hk2 : k ≤ 100) : ∃ L, Bx 0 L ∧ F_law_box [some (.scr ns), fI k] = .ok (.new (.lst L)) [some (.scr ns), fI k] := by
  obtain ⟨c, hc⟩ : ∃ c : Int, (if k < ns.length then ns[k]? = some c else c = 0) := by
    by_cases q : k < ns.length
    · exact ⟨ns[k], by rw [if_pos q]; exact List.getElem?_eq_getElem q⟩
    · exact ⟨0, by rw [if_neg q]⟩
  obtain ⟨u, hu⟩ : ∃ u : Int, u = if c < 0 then -c else c := ⟨_, rfl⟩
  have u0 : 0 ≤ u := by rw [hu]; split <;> omega
  have ga : gAbs [.int c] = some (.val (.int u)) := by rw [hu]; rfl
  have d1 := gMod_i (a := c) (b := 2305843009213693951) (by omega)
  have v0 : 0 ≤ c % 2305843009213693951 := Int.emod_nonneg _ (by omega)
  have v1 : c % 2305843009213693951 < 2305843009213693951 := Int.emod_lt_of_pos _ (by omega)
  have m1 : gMul (.int 39373) (.int (k : Int)) = some (.val (.int (39373 * (k : Int)))) := gMul_i (by omega)
  generalize (c % 2305843009213693951) = v at *
  have h3 := M4.three_le
  have s1 : (sSet 2 (mIfE (mBl (mOp (bo gLt) (oE (mVar 1)) (oE (mScrLen 0)))) (mScrIx 0 (oE (mVar 1))) (mC (.int 0)))) [some (.scr ns), fI k, none] = .nx [some (.scr ns), fI k, fI c] := by
    by_cases q : k < ns.length
    · rw [if_pos q] at hc
      have q2 : (k : Int) < (ns.length : Int) := by omega
      have hi : ixN ns.length (k : Int) = some k := by rw [ixN_lt (by omega) q2]; rfl
      simp [mScrLen, mScrIx, gI, q, q2, L2.atI, hi, hc]
      exact Option.some.inj ((List.getElem?_eq_getElem q).symm.trans hc)
    · rw [if_neg q] at hc
      subst hc
      have q2 : ¬ (k : Int) < (ns.length : Int) := by omega
      simp [mScrLen, mScrIx, gI, q, q2]
  by_cases hb : 1000000000000000000 ≤ u
  · have m2 : gMul (.int u) (.int 1) = some (.val (.int (u * 1))) := gMul_i (by omega)
    refine ⟨[.int (u * 1), .int (v + 39373 * (k : Int) + 17), .int 0], ⟨_, _, 0, by omega, by omega, by omega, by omega, by omega, rfl⟩, ?_⟩
    unfold F_law_box B_law_box
    refine fn_rn (E := [some (.scr ns), fI k, none]) rfl (by simp) rfl (by
      rw [x_seq, s1, x_q1]
      simp [ga, gI, gPow, hb, gInt, m2, d1, m1, gAdd_i, h3]
      rfl) rfl
  · have m2 : gMul (.int u) (.int 0) = some (.val (.int (u * 0))) := gMul_i (by omega)
    refine ⟨[.int (u * 0), .int (v + 39373 * (k : Int) + 17), .int 0], ⟨_, _, 0, by omega, by omega, by omega, by omega, by omega, rfl⟩, ?_⟩
    unfold F_law_box B_law_box
    refine fn_rn (E := [some (.scr ns), fI k, none]) rfl (by simp) rfl (by
      rw [x_seq, s1, x_q1]
      simp [ga, gI, gPow, hb, gInt, m2, d1, m1, gAdd_i, h3]
      rfl) rfl
end GC

namespace GC
open PySem PySem.Spec L2 M3 M4 M5
open PyProof.Rows hiding St
def Nm1 : Sm := (sUnp (fE (oE (mTup (dsCons (fE (oE (mC (.str "abcdefghijklmnopqrstuvwxyz")))) (dsCons (fE (oE (mCall 2 F_law_take (msCons (oE (mVar 0)) (msCons (oE (mC (.int 676))) msNil))))) (dsCons (fE (oE (mCall 2 F_law_take (msCons (oE (mVar 0)) (msCons (oE (mC (.int 5))) msNil))))) dsNil)))))) (.tp [(.nm 2), (.nm 3), (.nm 4)]))
def Nm2 : Sm := (sSet 5 (mOp gIx (oE (mLst (dsCons (fE (oE (mC (.int 1)))) (dsCons (fE (oE (mC (.int 3)))) (dsCons (fE (oE (mC (.int 5)))) (dsCons (fE (oE (mC (.int 7)))) (dsCons (fE (oE (mC (.int 25)))) (dsCons (fE (oE (mC (.int 675)))) dsNil)))))))) (oE (mCall 2 F_law_take (msCons (oE (mVar 0)) (msCons (oE (mC (.int 6))) msNil))))))
def Nm3 : Sm := (sIf (mBl (mOp (bo gEq) (oE (mVar 4)) (oE (mC (.int 0))))) (sSeq (sSet 6 (mBM gSplit (oE (mC (.str "store row put drop set tie rule table old new to gone"))) (msCons (oE (mC (.str " "))) msNil)))
    (sRet (mSl gSl (oE (mSl gSl (oE (mOp gAdd (oE (mVar 6)) (oE (mVar 6)))) (mPart (oE (mOp gMod (oE (mVar 3)) (oE (mC (.int 12)))))) mNoPart)) mNoPart (mPart (oE (mVar 1)))))) sNext)
def Nm4 : Sm := (sIf (mBl (mOp (bo gEq) (oE (mVar 4)) (oE (mC (.int 1))))) (sRet (mLc (mRng1 (msCons (oE (mVar 1)) msNil)) (.nm 7) [7] mYes (fE (oE (mOp gIx (oE (mVar 2)) (oE (mOp gMod (oE (mOp gAdd (oE (mVar 3)) (oE (mOp gMul (oE (mVar 5)) (oE (mVar 7)))))) (oE (mC (.int 26)))))))))) sNext)
def Nm5 : Sm := (sSet 8 (mBM gJoin (oE (mC (.str ""))) (msCons (oE (mLc (mRng1 (msCons (oE (mCall 2 F_law_take (msCons (oE (mVar 0)) (msCons (oE (mC (.int 4))) msNil)))) msNil)) (.nm 9) [9] mYes (fE (oE (mOp gIx (oE (mVar 2)) (oE (mCall 2 F_law_take (msCons (oE (mVar 0)) (msCons (oE (mC (.int 26))) msNil))))))))) msNil)))
def Nm6 : Sm := (sSet 10 (mBM gJoin (oE (mC (.str ""))) (msCons (oE (mLc (mRng1 (msCons (oE (mCall 2 F_law_take (msCons (oE (mVar 0)) (msCons (oE (mC (.int 3))) msNil)))) msNil)) (.nm 9) [9] mYes (fE (oE (mOp gIx (oE (mVar 2)) (oE (mCall 2 F_law_take (msCons (oE (mVar 0)) (msCons (oE (mC (.int 26))) msNil))))))))) msNil)))
def Nm7 : Sm := (sPar [11, 12] (msCons (mCall 2 F_law_take (msCons (oE (mVar 0)) (msCons (oE (mC (.int 2))) msNil))) (msCons (mLst dsNil) msNil)))
def Nm8 : Sm := (sFor (mRng1 (msCons (oE (mVar 1)) msNil)) (.nm 7) (sSeq (sSet 13 (mOp gMod (oE (mOp gAdd (oE (mVar 3)) (oE (mOp gMul (oE (mVar 5)) (oE (mVar 7)))))) (oE (mC (.int 676)))))
    (sSeq (sSet 14 (mOp gAdd (oE (mOp gAdd (oE (mOp gAdd (oE (mVar 8)) (oE (mOp gIx (oE (mVar 2)) (oE (mOp gDiv (oE (mVar 13)) (oE (mC (.int 26))))))))) (oE (mOp gIx (oE (mVar 2)) (oE (mOp gMod (oE (mVar 13)) (oE (mC (.int 26))))))))) (oE (mVar 10))))
    (sSeq (sIf (mAnd (mBl (mOp (bo gEq) (oE (mVar 11)) (oE (mC (.int 1))))) (mBl (mOp (bo gEq) (oE (mOp gMod (oE (mVar 7)) (oE (mC (.int 2))))) (oE (mC (.int 1)))))) (sSet 14 (mOp gAdd (oE (mOp gIx (oE (mVar 12)) (oE (mUn gNeg (oE (mC (.int 1))))))) (oE (mOp gIx (oE (mVar 2)) (oE (mOp gMod (oE (mOp gAdd (oE (mVar 3)) (oE (mVar 7)))) (oE (mC (.int 26))))))))) sNext)
    (sAppend 12 (fE (oE (mVar 14))))))))
def Nm9 : Sm := (sRet (mVar 12))
def Nl1 : Sm := (sSet 13 (mOp gMod (oE (mOp gAdd (oE (mVar 3)) (oE (mOp gMul (oE (mVar 5)) (oE (mVar 7)))))) (oE (mC (.int 676)))))
def Nl2 : Sm := (sSet 14 (mOp gAdd (oE (mOp gAdd (oE (mOp gAdd (oE (mVar 8)) (oE (mOp gIx (oE (mVar 2)) (oE (mOp gDiv (oE (mVar 13)) (oE (mC (.int 26))))))))) (oE (mOp gIx (oE (mVar 2)) (oE (mOp gMod (oE (mVar 13)) (oE (mC (.int 26))))))))) (oE (mVar 10))))
def Nl3 : Sm := (sIf (mAnd (mBl (mOp (bo gEq) (oE (mVar 11)) (oE (mC (.int 1))))) (mBl (mOp (bo gEq) (oE (mOp gMod (oE (mVar 7)) (oE (mC (.int 2))))) (oE (mC (.int 1)))))) (sSet 14 (mOp gAdd (oE (mOp gIx (oE (mVar 12)) (oE (mUn gNeg (oE (mC (.int 1))))))) (oE (mOp gIx (oE (mVar 2)) (oE (mOp gMod (oE (mOp gAdd (oE (mVar 3)) (oE (mVar 7)))) (oE (mC (.int 26))))))))) sNext)
def Nl4 : Sm := (sAppend 12 (fE (oE (mVar 14))))
def Nl : Sm := sSeq Nl1 (sSeq Nl2 (sSeq Nl3 Nl4))
theorem Nm8_is : Nm8 = sFor (mRng1 (msCons (oE (mVar 1)) msNil)) (.nm 7) Nl := rfl
theorem B_law_names_is : B_law_names = sSeq Nm1 (sSeq Nm2 (sSeq Nm3 (sSeq Nm4 (sSeq Nm5 (sSeq Nm6 (sSeq Nm7 (sSeq Nm8 Nm9))))))) := rfl
/-! ### what they are -/
def vK (f s k : Int) : Int := (f + s * k) % 676
def bsN (h t : List Nat) (f s k : Int) : List Nat := h ++ [97 + (vK f s k / 26).toNat] ++ [97 + (vK f s k % 26).toNat] ++ t
def nmN (h t : List Nat) (f s g : Int) (k : Nat) : List Nat := if g = 1 ∧ k % 2 = 1 then bsN h t f s ((k : Int) - 1) ++ [97 + ((f + (k : Int)) % 26).toNat] else bsN h t f s (k : Int)
def StepOk (s : Int) : Prop := s = 1 ∨ s = 3 ∨ s = 5 ∨ s = 7 ∨ s = 25 ∨ s = 675
theorem vK_rng (f s k : Int) : 0 ≤ vK f s k ∧ vK f s k < 676 := ⟨Int.emod_nonneg _ (by omega), Int.emod_lt_of_pos _ (by omega)⟩
theorem vK_inj {f s i j : Int} (hs : StepOk s) (hi : 0 ≤ i ∧ i < 26) (hj : 0 ≤ j ∧ j < 26) (e : vK f s i = vK f s j) : i = j := by
  unfold vK at e
  rcases hs with rfl | rfl | rfl | rfl | rfl | rfl <;> omega
theorem bsN_len (h t : List Nat) (f s k : Int) : (bsN h t f s k).length = h.length + 2 + t.length := by simp [bsN]; omega
theorem bsN_inj {h t : List Nat} {f s i j : Int} (hs : StepOk s) (hi : 0 ≤ i ∧ i < 26) (hj : 0 ≤ j ∧ j < 26) (e : bsN h t f s i = bsN h t f s j) : i = j := by
  unfold bsN at e
  have e := List.append_cancel_right e
  rw [List.append_assoc, List.append_assoc] at e
  have e := List.append_cancel_left e
  have e1 : 97 + (vK f s i / 26).toNat = 97 + (vK f s j / 26).toNat ∧ 97 + (vK f s i % 26).toNat = 97 + (vK f s j % 26).toNat := by simpa using e
  have r1 := vK_rng f s i
  have r2 := vK_rng f s j
  exact vK_inj (f := f) hs hi hj (by omega)
theorem bsN_c {h t : List Nat} {f s k : Int} (hh : ∀ c ∈ h, 97 ≤ c ∧ c ≤ 122) (ht : ∀ c ∈ t, 97 ≤ c ∧ c ≤ 122) : ∀ x ∈ bsN h t f s k, 97 ≤ x ∧ x ≤ 122 := fun x hx => by
  have r := vK_rng f s k
  unfold bsN at hx
  rcases List.mem_append.mp hx with hx | hx
  · rcases List.mem_append.mp hx with hx | hx
    · rcases List.mem_append.mp hx with hx | hx
      · exact hh x hx
      · rw [List.mem_singleton.mp hx]; omega
    · rw [List.mem_singleton.mp hx]; omega
  · exact ht x hx
theorem nmN_g {h t : List Nat} {f s g : Int} {k : Nat} (hh : ∀ c ∈ h, 97 ≤ c ∧ c ≤ 122) (ht : ∀ c ∈ t, 97 ≤ c ∧ c ≤ 122) (h3 : h.length ≤ 3) (t2 : t.length ≤ 2) : Gn (nmN h t f s g k) := by
  unfold nmN
  have q1 := Int.emod_nonneg (f + (k : Int)) (by omega : (26 : Int) ≠ 0)
  have q2 := Int.emod_lt_of_pos (f + (k : Int)) (by omega : (0 : Int) < 26)
  split
  · refine ⟨by rw [List.length_append, bsN_len]; omega, by rw [List.length_append, bsN_len, List.length_singleton]; omega, fun x hx => ?_⟩
    rcases List.mem_append.mp hx with hx | hx
    · exact bsN_c hh ht x hx
    · rw [List.mem_singleton.mp hx]; omega
  · exact ⟨by rw [bsN_len]; omega, by rw [bsN_len]; omega, bsN_c hh ht⟩
theorem nmN_inj {h t : List Nat} {f s g : Int} {i j : Nat} (hs : StepOk s) (hi : i < 26) (hj : j < 26) (e : nmN h t f s g i = nmN h t f s g j) : i = j := by
  have el := congrArg List.length e
  unfold nmN at e el
  split at e <;> split at e
  · rename_i h1 h2
    have e := List.append_inj' e rfl
    have := bsN_inj hs (by omega) (by omega) e.1
    omega
  · rename_i h1 h2
    rw [if_pos h1, if_neg h2, List.length_append, bsN_len, bsN_len, List.length_singleton] at el
    omega
  · rename_i h1 h2
    rw [if_neg h1, if_pos h2, List.length_append, bsN_len, bsN_len, List.length_singleton] at el
    omega
  · have := bsN_inj hs (by omega) (by omega) e
    omega
theorem range_nodup {α : Type} {g : Nat → α} {m : Nat} (h : ∀ i j, i < m → j < m → g i = g j → i = j) : ((List.range m).map g).Nodup := by
  unfold List.Nodup
  rw [List.pairwise_map]
  exact List.Pairwise.imp_of_mem (fun ha hb hne e => hne (h _ _ (List.mem_range.mp ha) (List.mem_range.mp hb) e)) List.nodup_range

theorem nm5 {T : Int} {L : List D} (h : Bx T L) (hT : T < 800000) (m f w s : Int) : ∃ L' l, Bx (T + 4) L' ∧ l.length ≤ 3 ∧ (∀ c ∈ l, 97 ≤ c ∧ c ≤ 122) ∧
    Nm5 [sB L, fI m, some (.fro (.str AZ)), fI f, fI w, fI s, none, none, none, none, none, none, none, none, none] = .nx [sB L', fI m, some (.fro (.str AZ)), fI f, fI w, fI s, none, none, some (.fro (dL l)), none, none, none, none, none, none] := by
  obtain ⟨n, L1, n0, n1, h1, e1⟩ := takeB (m := 4) h (by omega) (by omega) (by omega)
  have hr : (rngD 0 n.toNat).length = n.toNat := by unfold rngD; rw [List.length_map, List.length_range]
  have hz : n.toNat ≤ sizeLine := by rw [sizeLine_eq]; omega
  obtain ⟨out, ε', e2, ⟨L2, qs, h2, rfl, hq, rfl⟩, hl⟩ := lc_inv (p := .nm 9) (vs := [9]) (m := fE (oE (mOp gIx (oE (mVar 2)) (oE (mCall 2 F_law_take (msCons (oE (mVar 0)) (msCons (oE (mC (.int 26))) msNil)))))))
    (fun acc ε => ∃ L2 qs, Bx (T + 1 + (acc.length : Int)) L2 ∧ acc = qs.map (fun c => dL [c]) ∧ (∀ c ∈ qs, 97 ≤ c ∧ c ≤ 122) ∧ ε = [sB L2, fI m, some (.fro (.str AZ)), fI f, fI w, fI s, none, none, none, none, none, none, none, none, none])
    (N := n.toNat) hz (ds := rngD 0 n.toNat) (acc := []) (ε := [sB L1, fI m, some (.fro (.str AZ)), fI f, fI w, fI s, none, none, none, none, none, none, none, none, none])
    ⟨L1, [], by simpa using h1, rfl, (fun _ h => by cases h), rfl⟩ (fun d hd acc ε hI hacc => by
      obtain ⟨L2, qs, h2, rfl, hx, rfl⟩ := hI
      obtain ⟨q, L3, q0, q1, h3, e3⟩ := takeB (m := 26) h2 (by omega) (by omega) (by omega)
      have ey := gIx_AZ q0 q1
      refine ⟨_, _, _, by simp; rfl, by simp [e3, ey]; exact ⟨rfl, rfl⟩, L3, qs ++ [97 + q.toNat], h3.mono (by simp; omega), by simp, ?_, by simp⟩
      intro c hc
      rcases List.mem_append.mp hc with hc | hc
      · exact hx c hc
      · rw [List.mem_singleton.mp hc]
        omega) (by rw [hr]; simp)
  have hql : qs.length = n.toNat := by rw [List.length_map, hr] at hl; simpa using hl
  have ez := gJoin_L (cs := qs) (by omega)
  have hrn : -4611686018427387904 ≤ n ∧ n < 4611686018427387904 := by omega
  rw [List.length_map] at h2
  exact ⟨L2, qs, h2.mono (by omega), by omega, hq, by simp [Nm5, e1, hrn, e2, ez]⟩

theorem nm6 {T : Int} {L : List D} (h : Bx T L) (hT : T < 800000) (m f w s : Int) (hd : List Nat) : ∃ L' l, Bx (T + 3) L' ∧ l.length ≤ 2 ∧ (∀ c ∈ l, 97 ≤ c ∧ c ≤ 122) ∧
    Nm6 [sB L, fI m, some (.fro (.str AZ)), fI f, fI w, fI s, none, none, some (.fro (dL hd)), none, none, none, none, none, none] = .nx [sB L', fI m, some (.fro (.str AZ)), fI f, fI w, fI s, none, none, some (.fro (dL hd)), none, some (.fro (dL l)), none, none, none, none] := by
  obtain ⟨n, L1, n0, n1, h1, e1⟩ := takeB (m := 3) h (by omega) (by omega) (by omega)
  have hr : (rngD 0 n.toNat).length = n.toNat := by unfold rngD; rw [List.length_map, List.length_range]
  have hz : n.toNat ≤ sizeLine := by rw [sizeLine_eq]; omega
  obtain ⟨out, ε', e2, ⟨L2, qs, h2, rfl, hq, rfl⟩, hl⟩ := lc_inv (p := .nm 9) (vs := [9]) (m := fE (oE (mOp gIx (oE (mVar 2)) (oE (mCall 2 F_law_take (msCons (oE (mVar 0)) (msCons (oE (mC (.int 26))) msNil)))))))
    (fun acc ε => ∃ L2 qs, Bx (T + 1 + (acc.length : Int)) L2 ∧ acc = qs.map (fun c => dL [c]) ∧ (∀ c ∈ qs, 97 ≤ c ∧ c ≤ 122) ∧ ε = [sB L2, fI m, some (.fro (.str AZ)), fI f, fI w, fI s, none, none, some (.fro (dL hd)), none, none, none, none, none, none])
    (N := n.toNat) hz (ds := rngD 0 n.toNat) (acc := []) (ε := [sB L1, fI m, some (.fro (.str AZ)), fI f, fI w, fI s, none, none, some (.fro (dL hd)), none, none, none, none, none, none])
    ⟨L1, [], by simpa using h1, rfl, (fun _ h => by cases h), rfl⟩ (fun d hd acc ε hI hacc => by
      obtain ⟨L2, qs, h2, rfl, hx, rfl⟩ := hI
      obtain ⟨q, L3, q0, q1, h3, e3⟩ := takeB (m := 26) h2 (by omega) (by omega) (by omega)
      have ey := gIx_AZ q0 q1
      refine ⟨_, _, _, by simp; rfl, by simp [e3, ey]; exact ⟨rfl, rfl⟩, L3, qs ++ [97 + q.toNat], h3.mono (by simp; omega), by simp, ?_, by simp⟩
      intro c hc
      rcases List.mem_append.mp hc with hc | hc
      · exact hx c hc
      · rw [List.mem_singleton.mp hc]
        omega) (by rw [hr]; simp)
  have hql : qs.length = n.toNat := by rw [List.length_map, hr] at hl; simpa using hl
  have ez := gJoin_L (cs := qs) (by omega)
  have hrn : -4611686018427387904 ≤ n ∧ n < 4611686018427387904 := by omega
  rw [List.length_map] at h2
  exact ⟨L2, qs, h2.mono (by omega), by omega, hq, by simp [Nm6, e1, hrn, e2, ez]⟩

theorem nm8 (a0 a4 : Option SV) (m f s g : Int) (h t : List Nat) (h3 : h.length ≤ 3) (t2 : t.length ≤ 2) (hm : 0 ≤ m) (hm2 : m ≤ 26) (hf : 0 ≤ f) (hf2 : f < 676) (hs : StepOk s) (hg : g = 0 ∨ g = 1) :
    ∃ x y z, Nm8 [a0, fI m, some (.fro (.str AZ)), fI f, a4, fI s, none, none, some (.fro (dL h)), none, some (.fro (dL t)), fI g, some (.own (.lst [])), none, none] = .nx [a0, fI m, some (.fro (.str AZ)), fI f, a4, fI s, none, x, some (.fro (dL h)), none, some (.fro (dL t)), fI g, some (.own (.lst (((List.range m.toNat).map (nmN h t f s g)).map dL))), y, z] := by
  have s0 : 0 < s ∧ s < 676 := by rcases hs with rfl | rfl | rfl | rfl | rfl | rfl <;> omega
  have hrn : -4611686018427387904 ≤ m ∧ m < 4611686018427387904 := by omega
  have hr : (rngD 0 m.toNat).length = m.toNat := by unfold rngD; rw [List.length_map, List.length_range]
  obtain ⟨ε', e1, x, y, z, rfl⟩ := loop_nx (p := .nm 7) (body := Nl) (fun i ε => ∃ x y z, ε = [a0, fI m, some (.fro (.str AZ)), fI f, a4, fI s, none, x, some (.fro (dL h)), none, some (.fro (dL t)), fI g, some (.own (.lst (((List.range i).map (nmN h t f s g)).map dL))), y, z])
    (ds := rngD 0 m.toNat) (k := 0) (ε := [a0, fI m, some (.fro (.str AZ)), fI f, a4, fI s, none, none, some (.fro (dL h)), none, some (.fro (dL t)), fI g, some (.own (.lst [])), none, none]) ⟨none, none, none, rfl⟩ (fun i d ε hd hI => by
      obtain ⟨rfl, hi⟩ := rng_get hd
      obtain ⟨x, y, z, rfl⟩ := hI
      rw [Nat.zero_add]
      have rv := vK_rng f s (i : Int)
      have q1 : gMul (.int s) (.int (i : Int)) = some (.val (.int (s * i))) := gMul_i (by omega)
      have q2 : gMod (.int (f + s * i)) (.int 676) = some (.val (.int (vK f s i))) := gMod_i (by omega)
      have q3 : gDiv (.int (vK f s i)) (.int 26) = some (.val (.int (vK f s i / 26))) := gDiv_i (by omega) (lg (by omega) (by omega))
      have q4 : gMod (.int (vK f s i)) (.int 26) = some (.val (.int (vK f s i % 26))) := gMod_i (by omega)
      have q5 : gMod (.int (i : Int)) (.int 2) = some (.val (.int ((i : Int) % 2))) := gMod_i (by omega)
      have q6 : gMod (.int (f + i)) (.int 26) = some (.val (.int ((f + i) % 26))) := gMod_i (by omega)
      have ea := gIx_AZ (k := vK f s i / 26) (by omega) (by omega)
      have eb := gIx_AZ (k := vK f s i % 26) (by omega) (by omega)
      have ed := gIx_AZ (Int.emod_nonneg (f + i) (by omega : (26 : Int) ≠ 0)) (Int.emod_lt_of_pos _ (by omega))
      have g1 := gAdd_L (a := h) (b := [97 + (vK f s i / 26).toNat]) (by rw [List.length_singleton]; omega)
      have g2 := gAdd_L (a := h ++ [97 + (vK f s i / 26).toNat]) (b := [97 + (vK f s i % 26).toNat]) (by simp; omega)
      have g3 : gAdd (dL (h ++ [97 + (vK f s i / 26).toNat] ++ [97 + (vK f s i % 26).toNat])) (dL t) = some (.val (dL (bsN h t f s i))) := gAdd_L (by simp; omega)
      have f1 : Nl1 [a0, fI m, some (.fro (.str AZ)), fI f, a4, fI s, none, fI i, some (.fro (dL h)), none, some (.fro (dL t)), fI g, some (.own (.lst (((List.range i).map (nmN h t f s g)).map dL))), y, z] = .nx [a0, fI m, some (.fro (.str AZ)), fI f, a4, fI s, none, fI i, some (.fro (dL h)), none, some (.fro (dL t)), fI g, some (.own (.lst (((List.range i).map (nmN h t f s g)).map dL))), fI (vK f s i), z] := by
        simp only [Nl1, x_set]
        simp [q1, gAdd_i, q2]
      have f2 : Nl2 [a0, fI m, some (.fro (.str AZ)), fI f, a4, fI s, none, fI i, some (.fro (dL h)), none, some (.fro (dL t)), fI g, some (.own (.lst (((List.range i).map (nmN h t f s g)).map dL))), fI (vK f s i), z] = .nx [a0, fI m, some (.fro (.str AZ)), fI f, a4, fI s, none, fI i, some (.fro (dL h)), none, some (.fro (dL t)), fI g, some (.own (.lst (((List.range i).map (nmN h t f s g)).map dL))), fI (vK f s i), some (.fro (dL (bsN h t f s i)))] := by
        generalize (((List.range i).map (nmN h t f s g)).map dL) = F at *
        generalize bsN h t f s i = O at *
        generalize [97 + (vK f s i / 26).toNat] = C1 at *
        generalize [97 + (vK f s i % 26).toNat] = C2 at *
        generalize h ++ C1 = HC at *
        generalize HC ++ C2 = HCC at *
        simp only [Nl2, x_set]
        simp [q3, q4, ea, eb, g1, g2, g3]
      have hsz : i < sizeLine := by rw [sizeLine_eq]; omega
      have hlen : (((List.range i).map (nmN h t f s g)).map dL).length = i := by simp
      have fin : ∀ O, nmN h t f s g i = O → Nl4 [a0, fI m, some (.fro (.str AZ)), fI f, a4, fI s, none, fI i, some (.fro (dL h)), none, some (.fro (dL t)), fI g, some (.own (.lst (((List.range i).map (nmN h t f s g)).map dL))), fI (vK f s i), some (.fro (dL O))] = .nx [a0, fI m, some (.fro (.str AZ)), fI f, a4, fI s, none, fI i, some (.fro (dL h)), none, some (.fro (dL t)), fI g, some (.own (.lst (((List.range (i + 1)).map (nmN h t f s g)).map dL))), fI (vK f s i), some (.fro (dL O))] := fun O e => by
        rw [List.range_succ, List.map_append, List.map_singleton, List.map_append, List.map_singleton, e]
        generalize (((List.range i).map (nmN h t f s g)).map dL) = F at *
        simp [Nl4, hlen, hsz]
      refine ⟨[a0, fI m, some (.fro (.str AZ)), fI f, a4, fI s, none, fI i, some (.fro (dL h)), none, some (.fro (dL t)), fI g, some (.own (.lst (((List.range i).map (nmN h t f s g)).map dL))), y, z], _, by simp, ?_, fI i, fI (vK f s i), some (.fro (dL (nmN h t f s g i))), rfl⟩
      unfold Nl
      rw [x_seq, f1, x_q1, x_seq, f2, x_q1]
      by_cases hc : g = 1 ∧ i % 2 = 1
      · have hb : (i : Int) % 2 = 1 := by omega
        have en : nmN h t f s g i = bsN h t f s ((i : Int) - 1) ++ [97 + ((f + (i : Int)) % 26).toNat] := by unfold nmN; rw [if_pos hc]
        have ep : nmN h t f s g (i - 1) = bsN h t f s ((i : Int) - 1) := by
          unfold nmN
          rw [if_neg (by omega)]
          congr 1
          omega
        have gl : gIx (.list (((List.range i).map (nmN h t f s g)).map dL)) (.int (-1)) = some (.val (dL (bsN h t f s ((i : Int) - 1)))) := by
          show (L2.atI _ (-1)).map _ = _
          unfold L2.atI ixN
          rw [if_neg (by omega), List.length_map, List.length_map, List.length_range, if_pos (by omega)]
          show (((List.range i).map (nmN h t f s g)).map dL)[_]?.map _ = _
          rw [show (-1 + (i : Int)).toNat = i - 1 by omega, List.getElem?_map, List.getElem?_map, List.getElem?_range (by omega)]
          show some (Out.val (dL (nmN h t f s g (i - 1)))) = _
          rw [ep]
        have g6 := gAdd_L (a := bsN h t f s ((i : Int) - 1)) (b := [97 + ((f + (i : Int)) % 26).toNat]) (by rw [bsN_len, List.length_singleton]; omega)
        have f3 : Nl3 [a0, fI m, some (.fro (.str AZ)), fI f, a4, fI s, none, fI i, some (.fro (dL h)), none, some (.fro (dL t)), fI g, some (.own (.lst (((List.range i).map (nmN h t f s g)).map dL))), fI (vK f s i), some (.fro (dL (bsN h t f s i)))] = .nx [a0, fI m, some (.fro (.str AZ)), fI f, a4, fI s, none, fI i, some (.fro (dL h)), none, some (.fro (dL t)), fI g, some (.own (.lst (((List.range i).map (nmN h t f s g)).map dL))), fI (vK f s i), some (.fro (dL (nmN h t f s g i)))] := by
          rw [en]
          generalize (((List.range i).map (nmN h t f s g)).map dL) = F at *
          generalize bsN h t f s i = O at *
          generalize bsN h t f s ((i : Int) - 1) = O' at *
          simp [Nl3, hc.1, q5, hb, gEq_int, gNeg, gl, gAdd_i, q6, ed, g6]
        rw [x_seq, f3, x_q1, fin _ rfl]
      · have en : nmN h t f s g i = bsN h t f s i := by unfold nmN; rw [if_neg hc]
        have f3 : Nl3 [a0, fI m, some (.fro (.str AZ)), fI f, a4, fI s, none, fI i, some (.fro (dL h)), none, some (.fro (dL t)), fI g, some (.own (.lst (((List.range i).map (nmN h t f s g)).map dL))), fI (vK f s i), some (.fro (dL (bsN h t f s i)))] = .nx [a0, fI m, some (.fro (.str AZ)), fI f, a4, fI s, none, fI i, some (.fro (dL h)), none, some (.fro (dL t)), fI g, some (.own (.lst (((List.range i).map (nmN h t f s g)).map dL))), fI (vK f s i), some (.fro (dL (nmN h t f s g i)))] := by
          rw [en]
          generalize (((List.range i).map (nmN h t f s g)).map dL) = F at *
          generalize bsN h t f s i = O at *
          rcases hg with rfl | rfl
          · simp [Nl3, gEq_int]
          · have hb : ¬ (i : Int) % 2 = 1 := fun z => hc ⟨rfl, by omega⟩
            simp [Nl3, q5, hb, gEq_int]
        rw [x_seq, f3, x_q1, fin _ rfl])
  rw [hr, Nat.zero_add] at e1
  exact ⟨x, y, z, by simp [Nm8_is, hrn, e1]⟩
end GC

namespace GC
open PySem PySem.Spec L2 M3 M4 M5
open PyProof.Rows hiding St
theorem lc_map {α : Type} {p : Pat} {vs : List Nat} {m : M D} {g f : α → D} {ε : En} : ∀ {xs : List α} {acc : List D}, (∀ x ∈ xs, ∃ ε1 ε3, bindP p (g x) ε = some ε1 ∧ m ε1 = .ok (f x) ε3 ∧ wipeE ε3 vs = ε) → acc.length + xs.length ≤ sizeLine →
    lcLoop p vs mYes m (xs.map g) acc ε = .ok (acc ++ xs.map f) ε
  | [], acc, _, _ => by unfold lcLoop; simp
  | x :: xs, acc, h, hl => by
    obtain ⟨ε1, ε3, h1, h2, h3⟩ := h x List.mem_cons_self
    rw [List.map_cons]
    unfold lcLoop
    rw [h1]
    simp only [x_yes, h2]
    rw [List.length_cons] at hl
    rw [if_pos (by omega), h3, lc_map (fun x hx => h x (List.mem_cons_of_mem _ hx)) (by rw [List.length_append, List.length_singleton]; omega)]
    simp
theorem lc_filtM {α : Type} {p : Pat} {vs : List Nat} {c : M Bool} {m : M D} {g f : α → D} {q : α → Bool} {ε : En} : ∀ {xs : List α} {acc : List D}, (∀ x ∈ xs, ∃ ε1 ε2, bindP p (g x) ε = some ε1 ∧ c ε1 = .ok (q x) ε2 ∧ wipeE ε2 vs = ε ∧ (q x = true → ∃ ε3, m ε2 = .ok (f x) ε3 ∧ wipeE ε3 vs = ε)) → acc.length + xs.length ≤ sizeLine →
    lcLoop p vs c m (xs.map g) acc ε = .ok (acc ++ (xs.filter q).map f) ε
  | [], acc, _, _ => by unfold lcLoop; simp
  | x :: xs, acc, h, hl => by
    obtain ⟨ε1, ε2, h1, h2, h3, h4⟩ := h x List.mem_cons_self
    rw [List.length_cons] at hl
    rw [List.map_cons]
    unfold lcLoop
    rw [h1]
    simp only [h2]
    cases hq : q x with
    | false =>
      simp only [h3]
      rw [lc_filtM (fun x hx => h x (List.mem_cons_of_mem _ hx)) (by omega), List.filter_cons]
      simp [hq]
    | true =>
      obtain ⟨ε3, h5, h6⟩ := h4 hq
      simp only [h5]
      rw [if_pos (by omega), h6, lc_filtM (fun x hx => h x (List.mem_cons_of_mem _ hx)) (by rw [List.length_append, List.length_singleton]; omega), List.filter_cons]
      simp [hq]
theorem sz_of {n : Nat} (h : n ≤ 1000) : n ≤ sizeLine := by rw [sizeLine_eq]; omega
theorem cut_from (ds : List D) {p : Int} (h0 : 0 ≤ p) : M3.cutD ds (some p) none = ds.drop p.toNat := by
  unfold M3.cutD
  have e : HT.sIx ds.length 0 (some p) = min p.toNat ds.length := by
    show (if p < 0 then _ else _) = _
    rw [if_neg (by omega)]
  rw [e, HT.sIx_none]
  by_cases q : p.toNat ≤ ds.length
  · rw [Nat.min_eq_left q, List.take_of_length_le (by rw [List.length_drop]; omega)]
  · rw [Nat.min_eq_right (by omega), List.drop_of_length_le (by omega), List.drop_of_length_le (by omega)]
    simp
theorem cut_to (ds : List D) {p : Int} (h0 : 0 ≤ p) : M3.cutD ds none (some p) = ds.take p.toNat := by
  unfold M3.cutD
  have e : HT.sIx ds.length ds.length (some p) = min p.toNat ds.length := by
    show (if p < 0 then _ else _) = _
    rw [if_neg (by omega)]
  rw [e, HT.sIx_none, List.drop_zero, Nat.sub_zero]
  by_cases q : p.toNat ≤ ds.length
  · rw [Nat.min_eq_left q]
  · rw [Nat.min_eq_right (by omega), List.take_length, List.take_of_length_le (by omega)]
/-- the twelve words -/
def W12 : List (List Nat) := [[115, 116, 111, 114, 101], [114, 111, 119], [112, 117, 116], [100, 114, 111, 112], [115, 101, 116], [116, 105, 101], [114, 117, 108, 101], [116, 97, 98, 108, 101], [111, 108, 100], [110, 101, 119], [116, 111], [103, 111, 110, 101]]
theorem w12_split : Txt.split "store row put drop set tie rule table old new to gone" " " = W12.map sL := by decide +kernel
theorem w12_good : ∀ l ∈ W12, Gn l := by
  have h : ∀ l ∈ W12, 1 ≤ l.length ∧ l.length ≤ 8 ∧ ∀ x ∈ l, 97 ≤ x ∧ x ≤ 122 := by decide +kernel
  exact fun l hl => ⟨(h l hl).1, (h l hl).2.1, (h l hl).2.2⟩
theorem w12_rot : ∀ r < 12, (((W12 ++ W12).drop r).take 12).Nodup := by decide +kernel
theorem w12_len : ∀ r < 12, 12 ≤ ((W12 ++ W12).drop r).length := by decide +kernel
def WR (f m : Int) : List (List Nat) := ((W12 ++ W12).drop (f % 12).toNat).take m.toNat
theorem wr_ok {f m : Int} (hm : 0 ≤ m) (hm2 : m ≤ 12) : (WR f m).length = m.toNat ∧ (∀ l ∈ WR f m, Gn l) ∧ (WR f m).Nodup := by
  have r1 := Int.emod_nonneg f (by omega : (12 : Int) ≠ 0)
  have r2 := Int.emod_lt_of_pos f (by omega : (0 : Int) < 12)
  have hl := w12_len (f % 12).toNat (by omega)
  have hn := w12_rot (f % 12).toNat (by omega)
  refine ⟨by unfold WR; rw [List.length_take]; omega, fun l hl => ?_, ?_⟩
  · have := List.mem_of_mem_drop (List.mem_of_mem_take hl)
    rcases List.mem_append.mp this with q | q <;> exact w12_good l q
  · unfold WR
    have e : ((W12 ++ W12).drop (f % 12).toNat).take m.toNat = (((W12 ++ W12).drop (f % 12).toNat).take 12).take m.toNat := by
      rw [List.take_take, Nat.min_eq_left (by omega)]
    rw [e]
    exact hn.sublist (List.take_sublist _ _)
/-- single letters -/
def one1 (f s : Int) (k : Nat) : List Nat := [97 + ((f + s * (k : Int)) % 26).toNat]
theorem one1_ok {f s m : Int} (hs : StepOk s) (hm2 : m ≤ 26) : (∀ l ∈ (List.range m.toNat).map (one1 f s), Gn l) ∧ ((List.range m.toNat).map (one1 f s)).Nodup := by
  refine ⟨fun l hl => ?_, range_nodup fun i j hi hj e => ?_⟩
  · obtain ⟨k, _, rfl⟩ := List.mem_map.mp hl
    have r1 := Int.emod_nonneg (f + s * (k : Int)) (by omega : (26 : Int) ≠ 0)
    have r2 := Int.emod_lt_of_pos (f + s * (k : Int)) (by omega : (0 : Int) < 26)
    exact ⟨by simp [one1], by simp [one1], fun x hx => by unfold one1 at hx; rw [List.mem_singleton.mp hx]; omega⟩
  · have e1 : 97 + ((f + s * (i : Int)) % 26).toNat = 97 + ((f + s * (j : Int)) % 26).toNat := by simpa [one1] using e
    rcases hs with rfl | rfl | rfl | rfl | rfl | rfl <;> omega
end GC

namespace GC
open PySem PySem.Spec L2 M3 M4 M5
open PyProof.Rows hiding St
theorem fn_at {own : List Nat} {N : Nat} {body : Sm} {ε E ε' εo : En} {i : Nat} {o : OV} (hp : parOk own 0 ε = true) (hl : ε.length ≤ N) (hE : ε ++ List.replicate (N - ε.length) none = E) (hb : body E = .rt (.at_ i) ε') (hi : ε.length ≤ i) (hs : ε'[i]? = some (some (.own o))) (ho : outE own ε' 0 ε = εo) : fnF own N body ε = .ok (.new o) εo := by
  rw [x_fnF, if_pos ⟨hp, hl⟩, hE, hb]
  dsimp only
  rw [if_neg (by omega), hs]
  dsimp only
  rw [ho]
theorem gAdd_ll {a b : List D} (h : a.length + b.length ≤ sizeLine) : gAdd (.list a) (.list b) = some (.newl (a ++ b)) := by
  show (if _ then _ else _) = _
  rw [if_pos h]
theorem nm1 {T : Int} {L : List D} (h : Bx T L) (hT : T < 800000) (m : Int) : ∃ L' f w, Bx (T + 2) L' ∧ 0 ≤ f ∧ f < 676 ∧ 0 ≤ w ∧ w < 5 ∧
    Nm1 [sB L, fI m, none, none, none, none, none, none, none, none, none, none, none, none, none] = .nx [sB L', fI m, some (.fro (.str AZ)), fI f, fI w, none, none, none, none, none, none, none, none, none, none] := by
  obtain ⟨f, L1, f0, f1, h1, e1⟩ := takeB (m := 676) h (by omega) (by omega) (by omega)
  obtain ⟨w, L2, w0, w1, h2, e2⟩ := takeB (m := 5) h1 (by omega) (by omega) (by omega)
  have h3 : (3 : Nat) ≤ sizeLine := sz_of (by omega)
  exact ⟨L2, f, w, h2.mono (by omega), f0, f1, w0, w1, by simp [Nm1, e1, e2, h3]⟩
theorem nm2 {T : Int} {L : List D} (h : Bx T L) (hT : T < 800000) (m f w : Int) : ∃ L' s, Bx (T + 1) L' ∧ StepOk s ∧
    Nm2 [sB L, fI m, some (.fro (.str AZ)), fI f, fI w, none, none, none, none, none, none, none, none, none, none] = .nx [sB L', fI m, some (.fro (.str AZ)), fI f, fI w, fI s, none, none, none, none, none, none, none, none, none] := by
  obtain ⟨k, L1, k0, k1, h1, e1⟩ := takeB (m := 6) h (by omega) (by omega) (by omega)
  have h6 : (6 : Nat) ≤ sizeLine := sz_of (by omega)
  obtain ⟨s, hs, gs⟩ : ∃ s : Int, StepOk s ∧ gIx (.list [.int 1, .int 3, .int 5, .int 7, .int 25, .int 675]) (.int k) = some (.val (.int s)) := by
    have : k = 0 ∨ k = 1 ∨ k = 2 ∨ k = 3 ∨ k = 4 ∨ k = 5 := by omega
    rcases this with rfl | rfl | rfl | rfl | rfl | rfl
    · exact ⟨1, .inl rfl, by simp [gIx, atI, ixN]⟩
    · exact ⟨3, .inr (.inl rfl), by simp [gIx, atI, ixN]⟩
    · exact ⟨5, .inr (.inr (.inl rfl)), by simp [gIx, atI, ixN]⟩
    · exact ⟨7, .inr (.inr (.inr (.inl rfl))), by simp [gIx, atI, ixN]⟩
    · exact ⟨25, .inr (.inr (.inr (.inr (.inl rfl)))), by simp [gIx, atI, ixN]⟩
    · exact ⟨675, .inr (.inr (.inr (.inr (.inr rfl)))), by simp [gIx, atI, ixN]⟩
  exact ⟨L1, s, h1, hs, by simp [Nm2, h6, e1, gs]⟩
theorem nm9 (a0 a1 a2 a3 a4 a5 a6 a7 a8 a9 a10 a11 : Option SV) (F : List D) (y z : Option SV) : Nm9 [a0, a1, a2, a3, a4, a5, a6, a7, a8, a9, a10, a11, some (.own (.lst F)), y, z] = .rt (.at_ 12) [a0, a1, a2, a3, a4, a5, a6, a7, a8, a9, a10, a11, some (.own (.lst F)), y, z] := by simp [Nm9]
/-- names drawn: so many, good ones, unlike -/
theorem namesC {T : Int} {L : List D} (h : Bx T L) (hT : T < 700000) (m : Int) (hm : 0 ≤ m) (hm2 : m ≤ 12) :
    ∃ (L' : List D) (ls : List (List Nat)), Bx (T + 12) L' ∧ ls.length = m.toNat ∧ (∀ l ∈ ls, Gn l) ∧ ls.Nodup ∧ F_law_names [sB L, fI m] = .ok (.new (.lst (ls.map dL))) [sB L', fI m] := by
  obtain ⟨L1, f, w, h1, f0, f1, w0, w1, e1⟩ := nm1 h (by omega) m
  obtain ⟨L2, s, h2, hs, e2⟩ := nm2 h1 (by omega) m f w
  have start : ([sB L, fI m] : En) ++ List.replicate (15 - ([sB L, fI m] : En).length) none = [sB L, fI m, none, none, none, none, none, none, none, none, none, none, none, none, none] := rfl
  by_cases hw0 : w = 0
  · subst hw0
    have hl : ("store row put drop set tie rule table old new to gone" : Str).length + 2 ≤ sizeLine := by
      have : ("store row put drop set tie rule table old new to gone" : Str).length = 53 := by decide +kernel
      rw [this, sizeLine_eq]; omega
    have gs : gSplit (.str "store row put drop set tie rule table old new to gone") [.str " "] = some (.newl (W12.map dL)) := by
      have hc : ((" " : Str).length == 0) = false := by decide +kernel
      unfold gSplit
      dsimp only
      rw [if_pos ⟨hc, hl⟩, w12_split, List.map_map]
      rfl
    have ga : gAdd (.list (W12.map dL)) (.list (W12.map dL)) = some (.newl ((W12 ++ W12).map dL)) := by
      rw [gAdd_ll (by rw [sizeLine_eq]; simp [W12]), List.map_append]
    have q1 : gMod (.int f) (.int 12) = some (.val (.int (f % 12))) := gMod_i (by omega)
    have r1 := Int.emod_nonneg f (by omega : (12 : Int) ≠ 0)
    have g1 : gSl (.list ((W12 ++ W12).map dL)) (some (f % 12)) none = some (.newl (((W12 ++ W12).drop (f % 12).toNat).map dL)) := by
      show some (Out.newl (M3.cutD _ (some (f % 12)) none)) = _
      rw [cut_from _ r1, List.map_drop]
    have g2 : gSl (.list (((W12 ++ W12).drop (f % 12).toNat).map dL)) none (some m) = some (.newl ((WR f m).map dL)) := by
      show some (Out.newl (M3.cutD _ none (some m))) = _
      rw [cut_to _ hm]
      unfold WR
      rw [List.map_take]
    obtain ⟨k1, k2, k3⟩ := wr_ok (f := f) hm hm2
    refine ⟨L2, WR f m, h2.mono (by omega), k1, k2, k3, ?_⟩
    have e3 : Nm3 [sB L2, fI m, some (.fro (.str AZ)), fI f, fI 0, fI s, none, none, none, none, none, none, none, none, none] = .rt (.new (.lst ((WR f m).map dL))) [sB L2, fI m, some (.fro (.str AZ)), fI f, fI 0, fI s, some (.own (.lst (W12.map dL))), none, none, none, none, none, none, none, none] := by
      generalize (W12 ++ W12).map dL = X at *
      generalize ((W12 ++ W12).drop (f % 12).toNat).map dL = Y at *
      simp only [Nm3, x_if]
      simp [gEq_int, gs, ga, q1, g1, g2]
    unfold F_law_names
    exact fn_rn rfl (by simp) start (by rw [B_law_names_is, x_seq, e1, x_q1, x_seq, e2, x_q1, x_seq, e3]; rfl) rfl
  · have e3 : Nm3 [sB L2, fI m, some (.fro (.str AZ)), fI f, fI w, fI s, none, none, none, none, none, none, none, none, none] = .nx [sB L2, fI m, some (.fro (.str AZ)), fI f, fI w, fI s, none, none, none, none, none, none, none, none, none] := by
      simp [Nm3, gEq_int, hw0]
    have hrn : -4611686018427387904 ≤ m ∧ m < 4611686018427387904 := by omega
    by_cases hw1 : w = 1
    · subst hw1
      obtain ⟨k2, k3⟩ := one1_ok (f := f) hs (m := m) (by omega)
      have s0 : 0 < s ∧ s < 676 := by rcases hs with rfl | rfl | rfl | rfl | rfl | rfl <;> omega
      have el := lc_map (p := .nm 7) (vs := [7]) (m := fE (oE (mOp gIx (oE (mVar 2)) (oE (mOp gMod (oE (mOp gAdd (oE (mVar 3)) (oE (mOp gMul (oE (mVar 5)) (oE (mVar 7)))))) (oE (mC (.int 26)))))))) (g := fun k : Nat => PyData.int (0 + (k : Int))) (f := fun k => dL (one1 f s k))
        (ε := [sB L2, fI m, some (.fro (.str AZ)), fI f, fI 1, fI s, none, none, none, none, none, none, none, none, none]) (xs := List.range m.toNat) (acc := [])
        (fun k hk => by
          have hk := List.mem_range.mp hk
          have q1 : gMul (.int s) (.int (k : Int)) = some (.val (.int (s * k))) := gMul_i (by omega)
          have q2 : gMod (.int (f + s * k)) (.int 26) = some (.val (.int ((f + s * k) % 26))) := gMod_i (by omega)
          have ea := gIx_AZ (Int.emod_nonneg (f + s * k) (by omega : (26 : Int) ≠ 0)) (Int.emod_lt_of_pos _ (by omega))
          exact ⟨[sB L2, fI m, some (.fro (.str AZ)), fI f, fI 1, fI s, none, fI k, none, none, none, none, none, none, none], [sB L2, fI m, some (.fro (.str AZ)), fI f, fI 1, fI s, none, fI k, none, none, none, none, none, none, none], by simp, by simp [q1, gAdd_i, q2, ea, one1], by simp⟩)
        (by rw [sizeLine_eq]; simp; omega)
      have er : ((List.range m.toNat).map fun k : Nat => PyData.int (0 + (k : Int))) = rngD 0 m.toNat := rfl
      have em : ((List.range m.toNat).map fun k => dL (one1 f s k)) = ((List.range m.toNat).map (one1 f s)).map dL := by rw [List.map_map]; rfl
      rw [er, em, List.nil_append] at el
      have e4 : Nm4 [sB L2, fI m, some (.fro (.str AZ)), fI f, fI 1, fI s, none, none, none, none, none, none, none, none, none] = .rt (.new (.lst (((List.range m.toNat).map (one1 f s)).map dL))) [sB L2, fI m, some (.fro (.str AZ)), fI f, fI 1, fI s, none, none, none, none, none, none, none, none, none] := by
        generalize ((List.range m.toNat).map (one1 f s)).map dL = Z at *
        simp only [Nm4, x_if]
        simp [gEq_int, hrn, el]
      refine ⟨L2, (List.range m.toNat).map (one1 f s), h2.mono (by omega), by simp, k2, k3, ?_⟩
      unfold F_law_names
      exact fn_rn rfl (by simp) start (by rw [B_law_names_is, x_seq, e1, x_q1, x_seq, e2, x_q1, x_seq, e3, x_q1, x_seq, e4]; rfl) rfl
    · have e4 : Nm4 [sB L2, fI m, some (.fro (.str AZ)), fI f, fI w, fI s, none, none, none, none, none, none, none, none, none] = .nx [sB L2, fI m, some (.fro (.str AZ)), fI f, fI w, fI s, none, none, none, none, none, none, none, none, none] := by
        simp [Nm4, gEq_int, hw1]
      obtain ⟨L3, hd, h3, hd1, hd2, e5⟩ := nm5 h2 (by omega) m f w s
      obtain ⟨L4, tl, h4, tl1, tl2, e6⟩ := nm6 h3 (by omega) m f w s hd
      obtain ⟨g, L5, g0, g1, h5, e7⟩ := takeB (m := 2) h4 (by omega) (by omega) (by omega)
      have h0 : (0 : Nat) ≤ sizeLine := sz_of (by omega)
      have e7b : Nm7 [sB L4, fI m, some (.fro (.str AZ)), fI f, fI w, fI s, none, none, some (.fro (dL hd)), none, some (.fro (dL tl)), none, none, none, none] = .nx [sB L5, fI m, some (.fro (.str AZ)), fI f, fI w, fI s, none, none, some (.fro (dL hd)), none, some (.fro (dL tl)), fI g, some (.own (.lst [])), none, none] := by
        simp [Nm7, e7, h0]
      obtain ⟨x, y, z, e8⟩ := nm8 (sB L5) (fI w) m f s g hd tl (by omega) (by omega) hm (by omega) f0 f1 hs (by omega)
      refine ⟨L5, (List.range m.toNat).map (nmN hd tl f s g), h5.mono (by omega), by simp, fun l hl => ?_, range_nodup fun i j hi hj e => nmN_inj hs (by omega) (by omega) e, ?_⟩
      · obtain ⟨k, _, rfl⟩ := List.mem_map.mp hl
        exact nmN_g hd2 tl2 (by omega) (by omega)
      · unfold F_law_names
        refine fn_at (i := 12) rfl (by simp) start (by rw [B_law_names_is, x_seq, e1, x_q1, x_seq, e2, x_q1, x_seq, e3, x_q1, x_seq, e4, x_q1, x_seq, e5, x_q1, x_seq, e6, x_q1, x_seq, e7b, x_q1, x_seq, e8, x_q1]; exact nm9 _ _ _ _ _ _ _ _ _ _ _ _ _ _ _) (by simp) rfl rfl
end GC

namespace GC
open PySem PySem.Spec L2 M3 M4 M5
open PyProof.Rows hiding St
@[simp] theorem it_t (ds : List D) : itemsD (.tuple ds) = some ds := rfl
@[simp] theorem it_l (ds : List D) : itemsD (.list ds) = some ds := rfl
def Tb1 : Sm := (sPar [2, 3] (msCons (mLst dsNil) (msCons (mCall 2 F_law_names (msCons (oE (mVar 0)) (msCons (oE (mC (.int 5))) msNil))) msNil)))
def Tb2 : Sm := (sFor (mIt (fE (oE (mCall 2 F_law_names (msCons (oE (mVar 0)) (msCons (oE (mOp gAdd (oE (mC (.int 1))) (oE (mCall 2 F_law_take (msCons (oE (mVar 0)) (msCons (oE (mVar 1)) msNil)))))) msNil)))))) (.nm 4) (sSeq (sSet 5 (mSl gSl (oE (mOp gIx (oE (mLst (dsCons (fE (oE (mVar 3))) (dsCons (fE (oE (mCall 2 F_law_names (msCons (oE (mVar 0)) (msCons (oE (mC (.int 5))) msNil))))) dsNil)))) (oE (mCall 2 F_law_take (msCons (oE (mVar 0)) (msCons (oE (mC (.int 2))) msNil)))))) mNoPart (mPart (oE (mOp gAdd (oE (mC (.int 1))) (oE (mCall 2 F_law_take (msCons (oE (mVar 0)) (msCons (oE (mC (.int 5))) msNil)))))))))
    (sSeq (sSet 6 (mLst (dsCons (fE (oE (mTup (dsCons (fE (oE (mOp gIx (oE (mVar 5)) (oE (mC (.int 0)))))) (dsCons (fE (oE (mC .none))) dsNil))))) dsNil)))
    (sSeq (sFor (mIt (fE (oE (mSl gSl (oE (mVar 5)) (mPart (oE (mC (.int 1)))) mNoPart)))) (.nm 7) (sAppend 6 (fE (oE (mTup (dsCons (fE (oE (mVar 7))) (dsCons (fE (oE (mOp gIx (oE (mLst (dsCons (fE (oE (mC .none))) (dsCons (fE (oE (mOp M3.gSub (oE (mCall 2 F_law_take (msCons (oE (mVar 0)) (msCons (oE (mC (.int 9))) msNil)))) (oE (mC (.int 3)))))) (dsCons (fE (oE (mOp gPow (oE (mC (.int 10))) (oE (mC (.int 9)))))) dsNil))))) (oE (mCall 2 F_law_take (msCons (oE (mVar 0)) (msCons (oE (mC (.int 3))) msNil))))))) dsNil)))))))
    (sAppend 2 (fE (oE (mTup (dsCons (fE (oE (mVar 4))) (dsCons (fE (oE (mCallB gTuple (msCons (oE (mVar 6)) msNil)))) dsNil))))))))))
def Tb3 : Sm := (sRet (mCallB gTuple (msCons (oE (mVar 2)) msNil)))
def Tl1 : Sm := (sSet 5 (mSl gSl (oE (mOp gIx (oE (mLst (dsCons (fE (oE (mVar 3))) (dsCons (fE (oE (mCall 2 F_law_names (msCons (oE (mVar 0)) (msCons (oE (mC (.int 5))) msNil))))) dsNil)))) (oE (mCall 2 F_law_take (msCons (oE (mVar 0)) (msCons (oE (mC (.int 2))) msNil)))))) mNoPart (mPart (oE (mOp gAdd (oE (mC (.int 1))) (oE (mCall 2 F_law_take (msCons (oE (mVar 0)) (msCons (oE (mC (.int 5))) msNil)))))))))
def Tl2 : Sm := (sSet 6 (mLst (dsCons (fE (oE (mTup (dsCons (fE (oE (mOp gIx (oE (mVar 5)) (oE (mC (.int 0)))))) (dsCons (fE (oE (mC .none))) dsNil))))) dsNil)))
def Tl3 : Sm := (sFor (mIt (fE (oE (mSl gSl (oE (mVar 5)) (mPart (oE (mC (.int 1)))) mNoPart)))) (.nm 7) (sAppend 6 (fE (oE (mTup (dsCons (fE (oE (mVar 7))) (dsCons (fE (oE (mOp gIx (oE (mLst (dsCons (fE (oE (mC .none))) (dsCons (fE (oE (mOp M3.gSub (oE (mCall 2 F_law_take (msCons (oE (mVar 0)) (msCons (oE (mC (.int 9))) msNil)))) (oE (mC (.int 3)))))) (dsCons (fE (oE (mOp gPow (oE (mC (.int 10))) (oE (mC (.int 9)))))) dsNil))))) (oE (mCall 2 F_law_take (msCons (oE (mVar 0)) (msCons (oE (mC (.int 3))) msNil))))))) dsNil)))))))
def Tl4 : Sm := (sAppend 2 (fE (oE (mTup (dsCons (fE (oE (mVar 4))) (dsCons (fE (oE (mCallB gTuple (msCons (oE (mVar 6)) msNil)))) dsNil))))))
def Ti : Sm := (sAppend 6 (fE (oE (mTup (dsCons (fE (oE (mVar 7))) (dsCons (fE (oE (mOp gIx (oE (mLst (dsCons (fE (oE (mC .none))) (dsCons (fE (oE (mOp M3.gSub (oE (mCall 2 F_law_take (msCons (oE (mVar 0)) (msCons (oE (mC (.int 9))) msNil)))) (oE (mC (.int 3)))))) (dsCons (fE (oE (mOp gPow (oE (mC (.int 10))) (oE (mC (.int 9)))))) dsNil))))) (oE (mCall 2 F_law_take (msCons (oE (mVar 0)) (msCons (oE (mC (.int 3))) msNil))))))) dsNil))))))
def Tl : Sm := sSeq Tl1 (sSeq Tl2 (sSeq Tl3 Tl4))
theorem Tb2_is : Tb2 = sFor (mIt (fE (oE (mCall 2 F_law_names (msCons (oE (mVar 0)) (msCons (oE (mOp gAdd (oE (mC (.int 1))) (oE (mCall 2 F_law_take (msCons (oE (mVar 0)) (msCons (oE (mVar 1)) msNil)))))) msNil)))))) (.nm 4) Tl := rfl
theorem Tl3_is : Tl3 = sFor (mIt (fE (oE (mSl gSl (oE (mVar 5)) (mPart (oE (mC (.int 1)))) mNoPart)))) (.nm 7) Ti := rfl
theorem B_law_tables_is : B_law_tables = sSeq Tb1 (sSeq Tb2 Tb3) := rfl
theorem worthC {T : Int} {L : List D} (h : Bx T L) (hT : T < 800000) : ∃ L1 a L2 b w, Bx (T + 2) L2 ∧ Wd w ∧ F_law_take [sB L, fI 9] = .ok (.fro (.int a)) [sB L1, fI 9] ∧ F_law_take [sB L1, fI 3] = .ok (.fro (.int b)) [sB L2, fI 3] ∧
    gIx (.list [.none, .int (a - 3), .int 1000000000]) (.int b) = some (.val w) := by
  obtain ⟨a, L1, a0, a1, h1, e1⟩ := takeB (m := 9) h (by omega) (by omega) (by omega)
  obtain ⟨b, L2, b0, b1, h2, e2⟩ := takeB (m := 3) h1 (by omega) (by omega) (by omega)
  have : b = 0 ∨ b = 1 ∨ b = 2 := by omega
  rcases this with rfl | rfl | rfl
  · exact ⟨L1, a, L2, 0, .none, h2.mono (by omega), .inl rfl, e1, e2, by simp [gIx, atI, ixN]⟩
  · exact ⟨L1, a, L2, 1, .int (a - 3), h2.mono (by omega), .inr ⟨_, rfl, by omega, by omega⟩, e1, e2, by simp [gIx, atI, ixN]⟩
  · exact ⟨L1, a, L2, 2, .int 1000000000, h2.mono (by omega), .inr ⟨_, rfl, by omega, by omega⟩, e1, e2, by simp [gIx, atI, ixN]⟩
theorem tl3 {T : Int} {L : List D} (h : Bx T L) (hT : T < 700000) (a1 a2 a3 a4 a7 : Option SV) (n0 : List Nat) (ns : List (List Nat)) (hl : ns.length ≤ 4) :
    ∃ L' rest x7, Bx (T + 8) L' ∧ rest.map (·.1) = ns ∧ (∀ c ∈ rest, Wd c.2) ∧
      Tl3 [sB L, a1, a2, a3, a4, some (.own (.lst ((n0 :: ns).map dL))), some (.own (.lst [colD (n0, .none)])), a7] = .nx [sB L', a1, a2, a3, a4, some (.own (.lst ((n0 :: ns).map dL))), some (.own (.lst ((((n0, PyData.none) : TC) :: rest).map colD))), x7] := by
  obtain ⟨ε', e1, L', rest, x7, k1, k2, k3, rfl⟩ := loop_nx (p := .nm 7) (body := Ti) (fun i ε => ∃ (L' : List D) (rest : List TC) (x7 : Option SV), Bx (T + 2 * (i : Int)) L' ∧ rest.map (·.1) = ns.take i ∧ (∀ c ∈ rest, Wd c.2) ∧
      ε = [sB L', a1, a2, a3, a4, some (.own (.lst ((n0 :: ns).map dL))), some (.own (.lst ((((n0, PyData.none) : TC) :: rest).map colD))), x7])
    (ds := ns.map dL) (k := 0) (ε := [sB L, a1, a2, a3, a4, some (.own (.lst ((n0 :: ns).map dL))), some (.own (.lst [colD (n0, .none)])), a7])
    ⟨L, [], a7, by simpa using h, by simp, (fun _ h => by cases h), rfl⟩ (fun i d ε hi hI => by
      obtain ⟨L', rest, x7, k1, k2, k3, rfl⟩ := hI
      obtain ⟨n, hn, rfl⟩ := get_map hi
      rw [Nat.zero_add] at *
      have hil := lt_get hn
      obtain ⟨L1, a, L2, b, w, h2, hw, q1, q2, q3⟩ := worthC k1 (by omega)
      have hr : rest.length = i := by
        have := congrArg List.length k2
        rw [List.length_map, List.length_take] at this
        omega
      have hsz : rest.length + 1 < sizeLine := by rw [sizeLine_eq]; omega
      have h2s := M4.two_le
      have h3s : (3 : Nat) ≤ sizeLine := sz_of (by omega)
      refine ⟨[sB L', a1, a2, a3, a4, some (.own (.lst ((n0 :: ns).map dL))), some (.own (.lst ((((n0, PyData.none) : TC) :: rest).map colD))), some (.fro (dL n))], _, by simp, ?_, L2, rest ++ [(n, w)], some (.fro (dL n)), h2.mono (by omega), ?_, ?_, rfl⟩
      · have hlen : ((((n0, PyData.none) : TC) :: rest).map colD).length < sizeLine := by simpa using hsz
        have em : (((n0, PyData.none) : TC) :: (rest ++ [(n, w)])).map colD = (((n0, PyData.none) : TC) :: rest).map colD ++ [.tuple [dL n, w]] := by simp [colD]
        rw [em]
        generalize (((n0, PyData.none) : TC) :: rest).map colD = F at *
        generalize (n0 :: ns).map dL = G at *
        simp [Ti, q1, q2, gSub_i, gPow, q3, hlen, h2s, h3s]
      · rw [List.map_append, k2, take_get hn]; rfl
      · intro c hc
        rcases List.mem_append.mp hc with hc | hc
        · exact k3 c hc
        · rw [List.mem_singleton.mp hc]; exact hw)
  rw [List.length_map, Nat.zero_add] at *
  rw [List.take_length] at k2
  have g1 : gSl (.list ((n0 :: ns).map dL)) (some 1) none = some (.newl (ns.map dL)) := by
    show some (Out.newl (M3.cutD _ (some 1) none)) = _
    rw [cut_from _ (by omega)]
    rfl
  refine ⟨L', rest, x7, k1.mono (by omega), k2, k3, ?_⟩
  generalize (((n0, PyData.none) : TC) :: rest).map colD = F at *
  generalize (n0 :: ns).map dL = G at *
  simp [Tl3_is, g1, e1]
/-- a list kept or frozen -/
def KL (x : Option SV) (l : List D) : Prop := x = some (.own (.lst l)) ∨ x = some (.fro (.list l))
theorem tl_ok {T : Int} {L : List D} (h : Bx T L) (hT : T < 600000) (a1 a5 a6 a7 x3 : Option SV) (SH : List (List Nat)) (hS : SH.length = 5) (hS2 : ∀ l ∈ SH, Gn l) (hS3 : SH.Nodup) (hx : KL x3 (SH.map dL)) (acc : List D) (hacc : acc.length < 1000) (n : List Nat) :
    ∃ L' cols x5 x6 x7, Bx (T + 30) L' ∧ GoodC cols ∧ Tl [sB L, a1, some (.own (.lst acc)), x3, some (.fro (dL n)), a5, a6, a7] = .nx [sB L', a1, some (.own (.lst (acc ++ [tblD (n, cols)]))), some (.fro (.list (SH.map dL))), some (.fro (dL n)), x5, x6, x7] := by
  obtain ⟨L1, NW, h1, w1, w2, w3, e1⟩ := namesC h (by omega) 5 (by omega) (by omega)
  obtain ⟨j, L2, j0, j1, h2, e2⟩ := takeB (m := 2) h1 (by omega) (by omega) (by omega)
  obtain ⟨q, L3, q0, q1, h3, e3⟩ := takeB (m := 5) h2 (by omega) (by omega) (by omega)
  obtain ⟨NS, s1, s2, s3, gi⟩ : ∃ NS : List (List Nat), NS.length = 5 ∧ (∀ l ∈ NS, Gn l) ∧ NS.Nodup ∧ gIx (.list [.list (SH.map dL), .list (NW.map dL)]) (.int j) = some (.val (.list (NS.map dL))) := by
    have : j = 0 ∨ j = 1 := by omega
    rcases this with rfl | rfl
    · exact ⟨SH, hS, hS2, hS3, by simp [gIx, atI, ixN]⟩
    · exact ⟨NW, w1, w2, w3, by simp [gIx, atI, ixN]⟩
  have hq : (1 + q).toNat ≤ 5 ∧ 1 ≤ (1 + q).toNat := by omega
  obtain ⟨n0, ns, en⟩ : ∃ n0 ns, NS.take (1 + q).toNat = n0 :: ns := by
    cases e : NS.take (1 + q).toNat with
    | nil =>
      have := congrArg List.length e
      rw [List.length_take, List.length_nil] at this
      omega
    | cons a b => exact ⟨a, b, rfl⟩
  have hnl : ns.length ≤ 4 := by
    have := congrArg List.length en
    rw [List.length_take, List.length_cons] at this
    omega
  have gs : gSl (.list (NS.map dL)) none (some (1 + q)) = some (.newl ((n0 :: ns).map dL)) := by
    show some (Out.newl (M3.cutD _ none (some (1 + q)))) = _
    rw [cut_to _ (by omega), ← en, List.map_take]
  have h2s := M4.two_le
  have h1s : (1 : Nat) ≤ sizeLine := sz_of (by omega)
  have f1 : Tl1 [sB L, a1, some (.own (.lst acc)), x3, some (.fro (dL n)), a5, a6, a7] = .nx [sB L3, a1, some (.own (.lst acc)), some (.fro (.list (SH.map dL))), some (.fro (dL n)), some (.own (.lst ((n0 :: ns).map dL))), a6, a7] := by
    generalize (n0 :: ns).map dL = G at *
    generalize SH.map dL = G1 at *
    generalize NW.map dL = G2 at *
    generalize NS.map dL = G3 at *
    rcases hx with rfl | rfl
    · simp only [Tl1, x_set]
      simp [e1, e2, e3, gi, gAdd_i, gs, h2s]
    · simp only [Tl1, x_set]
      simp [e1, e2, e3, gi, gAdd_i, gs, h2s]
  have g0 : gIx (.list ((n0 :: ns).map dL)) (.int 0) = some (.val (dL n0)) := by simp [gIx, atI, ixN]
  have f2 : Tl2 [sB L3, a1, some (.own (.lst acc)), some (.fro (.list (SH.map dL))), some (.fro (dL n)), some (.own (.lst ((n0 :: ns).map dL))), a6, a7] = .nx [sB L3, a1, some (.own (.lst acc)), some (.fro (.list (SH.map dL))), some (.fro (dL n)), some (.own (.lst ((n0 :: ns).map dL))), some (.own (.lst [colD (n0, .none)])), a7] := by
    generalize (n0 :: ns).map dL = G at *
    simp [Tl2, g0, h1s, h2s, colD]
  obtain ⟨L4, rest, x7, h4, k2, k3, f3⟩ := tl3 h3 (by omega) a1 (some (.own (.lst acc))) (some (.fro (.list (SH.map dL)))) (some (.fro (dL n))) a7 n0 ns hnl
  have hrl : rest.length = ns.length := by rw [← k2, List.length_map]
  have hsz : ((((n0, PyData.none) : TC) :: rest).map colD).length ≤ sizeLine := by
    rw [List.length_map, List.length_cons]
    exact sz_of (by omega)
  have hsz2 : acc.length < sizeLine := by rw [sizeLine_eq]; omega
  have sub : (n0 :: ns).Sublist NS := by rw [← en]; exact List.take_sublist _ _
  refine ⟨L4, (n0, .none) :: rest, some (.own (.lst ((n0 :: ns).map dL))), some (.own (.lst ((((n0, PyData.none) : TC) :: rest).map colD))), x7, h4.mono (by omega), ⟨by simp, by simp; omega, ?_, ?_, ?_⟩, ?_⟩
  · rw [List.map_cons, k2]
    exact s3.sublist sub
  · intro c hc
    rcases List.mem_cons.mp hc with rfl | hc
    · exact ⟨s2 _ (sub.subset List.mem_cons_self), .inl rfl⟩
    · have m1 : c.1 ∈ ns := by rw [← k2]; exact List.mem_map_of_mem hc
      exact ⟨s2 _ (sub.subset (List.mem_cons_of_mem _ m1)), k3 c hc⟩
  · intro c r e
    injection e with e1 e2
    rw [← e1]
  · have f4 : Tl4 [sB L4, a1, some (.own (.lst acc)), some (.fro (.list (SH.map dL))), some (.fro (dL n)), some (.own (.lst ((n0 :: ns).map dL))), some (.own (.lst ((((n0, PyData.none) : TC) :: rest).map colD))), x7] = .nx [sB L4, a1, some (.own (.lst (acc ++ [tblD (n, (n0, .none) :: rest)]))), some (.fro (.list (SH.map dL))), some (.fro (dL n)), some (.own (.lst ((n0 :: ns).map dL))), some (.own (.lst ((((n0, PyData.none) : TC) :: rest).map colD))), x7] := by
      have et : tblD (n, (n0, .none) :: rest) = .tuple [dL n, .tuple ((((n0, PyData.none) : TC) :: rest).map colD)] := rfl
      rw [et]
      generalize (((n0, PyData.none) : TC) :: rest).map colD = F at *
      generalize (n0 :: ns).map dL = G at *
      simp [Tl4, gTuple, outR, hsz, hsz2, h2s]
    unfold Tl
    rw [x_seq, f1, x_q1, x_seq, f2, x_q1, x_seq, f3, x_q1, f4]
/-- tables drawn -/
theorem tablesC {T : Int} {L : List D} (h : Bx T L) (hT : T < 500000) (most : Int) (hm : 1 ≤ most) (hm2 : most ≤ 10) :
    ∃ (L' : List D) (ts : List M5.TT), Bx (T + 400) L' ∧ ts ≠ [] ∧ (ts.length : Int) ≤ most ∧ GoodT ts ∧ F_law_tables [sB L, fI most] = .ok (.fro (.tuple (ts.map tblD))) [sB L', fI most] := by
  obtain ⟨L1, SH, h1, s1, s2, s3, e1⟩ := namesC h (by omega) 5 (by omega) (by omega)
  obtain ⟨j, L2, j0, j1, h2, e2⟩ := takeB (m := most) h1 (by omega) (by omega) (by omega)
  obtain ⟨L3, NL, h3, n1, n2, n3, e3⟩ := namesC h2 (by omega) (1 + j) (by omega) (by omega)
  have h0s : (0 : Nat) ≤ sizeLine := sz_of (by omega)
  have f1 : Tb1 [sB L, fI most, none, none, none, none, none, none] = .nx [sB L1, fI most, some (.own (.lst [])), some (.own (.lst (SH.map dL))), none, none, none, none] := by
    simp [Tb1, e1, h0s]
  obtain ⟨ε', f2, L4, ts, x3, x4, x5, x6, x7, k1, k2, k3, k4, rfl⟩ := loop_nx (p := .nm 4) (body := Tl) (fun i ε => ∃ (L' : List D) (ts : List M5.TT) (x3 x4 x5 x6 x7 : Option SV), Bx (T + 25 + 30 * (i : Int)) L' ∧ ts.map (·.1) = NL.take i ∧ (∀ t ∈ ts, GoodC t.2) ∧ KL x3 (SH.map dL) ∧
      ε = [sB L', fI most, some (.own (.lst (ts.map tblD))), x3, x4, x5, x6, x7])
    (ds := NL.map dL) (k := 0) (ε := [sB L3, fI most, some (.own (.lst [])), some (.own (.lst (SH.map dL))), none, none, none, none])
    ⟨L3, [], _, _, _, _, _, h3.mono (by omega), by simp, (fun _ h => by cases h), .inl rfl, rfl⟩ (fun i d ε hi hI => by
      obtain ⟨L', ts, x3, x4, x5, x6, x7, k1, k2, k3, k4, rfl⟩ := hI
      obtain ⟨n, hn, rfl⟩ := get_map hi
      rw [Nat.zero_add] at *
      have hil := lt_get hn
      have hr : ts.length = i := by
        have := congrArg List.length k2
        rw [List.length_map, List.length_take] at this
        omega
      obtain ⟨L5, cols, y5, y6, y7, h5, gc, e⟩ := tl_ok k1 (by omega) (fI most) x5 x6 x7 x3 SH s1 s2 s3 k4 (ts.map tblD) (by rw [List.length_map]; omega) n
      exact ⟨[sB L', fI most, some (.own (.lst (ts.map tblD))), x3, some (.fro (dL n)), x5, x6, x7], _, by simp, e, L5, ts ++ [(n, cols)], _, _, y5, y6, y7, h5.mono (by omega), by rw [List.map_append, k2, take_get hn]; rfl, (fun t ht => by
        rcases List.mem_append.mp ht with ht | ht
        · exact k3 t ht
        · rw [List.mem_singleton.mp ht]; exact gc), .inr rfl, by rw [List.map_append]; rfl⟩)
  rw [List.length_map, Nat.zero_add] at *
  rw [List.take_length] at k2
  have htl : ts.length = NL.length := by rw [← k2, List.length_map]
  refine ⟨L4, ts, k1.mono (by omega), ?_, by omega, ⟨by rw [k2]; exact n3, fun t ht => ⟨n2 _ (by rw [← k2]; exact List.mem_map_of_mem ht), k3 t ht⟩⟩, ?_⟩
  · rintro rfl
    simp at htl
    omega
  · have hsz : (ts.map tblD).length ≤ sizeLine := by rw [List.length_map]; exact sz_of (by omega)
    have f3 : Tb2 [sB L1, fI most, some (.own (.lst [])), some (.own (.lst (SH.map dL))), none, none, none, none] = .nx [sB L4, fI most, some (.own (.lst (ts.map tblD))), x3, x4, x5, x6, x7] := by
      generalize SH.map dL = G at *
      simp [Tb2_is, e2, gAdd_i, e3, f2]
    have f4 : Tb3 [sB L4, fI most, some (.own (.lst (ts.map tblD))), x3, x4, x5, x6, x7] = .rt (.fro (.tuple (ts.map tblD))) [sB L4, fI most, some (.own (.lst (ts.map tblD))), x3, x4, x5, x6, x7] := by
      generalize ts.map tblD = G at *
      simp [Tb3, gTuple, outR, hsz]
    unfold F_law_tables
    exact fn_rt (E := [sB L, fI most, none, none, none, none, none, none]) rfl (by simp) rfl (by rw [B_law_tables_is, x_seq, f1, x_q1, x_seq, f3, x_q1, f4]) rfl
end GC

namespace GC
open PySem PySem.Spec L2 M3 M4 M5
open PyProof.Rows hiding St
def Zy1 : Sm := (sPar [3, 4] (msCons (mLst dsNil) (msCons (mLst (dsCons (fE (oE (mC (.str "bar")))) (dsCons (fE (oE (mC (.str "carry")))) (dsCons (fE (oE (mC (.str "empty")))) (dsCons (fE (oE (mC (.str "fallback")))) (dsCons (fE (oE (mC (.str "look")))) (dsCons (fE (oE (mC (.str "carry")))) dsNil))))))) msNil)))
def Zy2 : Sm := (sFor (mIt (fE (oE (mCall 2 F_law_names (msCons (oE (mVar 0)) (msCons (oE (mCall 2 F_law_take (msCons (oE (mVar 0)) (msCons (oE (mOp gAdd (oE (mVar 2)) (oE (mC (.int 1))))) msNil)))) msNil)))))) (.nm 5) (sSeq (sUnp (fE (oE (mOp gIx (oE (mVar 1)) (oE (mCall 2 F_law_take (msCons (oE (mVar 0)) (msCons (oE (mCallB gLen (msCons (oE (mVar 1)) msNil))) msNil))))))) (.tp [(.nm 6), (.nm 7)]))
    (sSeq (sSet 8 (mCallB gMax (msCons (oE (mC (.int 0))) (msCons (oE (mCallB gMin (msCons (oE (mOp M3.gSub (oE (mCallB gLen (msCons (oE (mVar 7)) msNil))) (oE (mC (.int 1))))) (msCons (oE (mOp M3.gSub (oE (mCall 2 F_law_take (msCons (oE (mVar 0)) (msCons (oE (mC (.int 6))) msNil)))) (oE (mC (.int 1))))) msNil)))) msNil))))
    (sSeq (sPar [9, 10] (msCons (mOp gIx (oE (mVar 4)) (oE (mCall 2 F_law_take (msCons (oE (mVar 0)) (msCons (oE (mC (.int 6))) msNil))))) (msCons (mOp gIx (oE (mVar 4)) (oE (mCall 2 F_law_take (msCons (oE (mVar 0)) (msCons (oE (mC (.int 6))) msNil))))) msNil)))
    (sSeq (sIf (mBl (mOp (bo gEq) (oE (mVar 8)) (oE (mC (.int 0))))) (sPar [9, 10] (msCons (mOp gIx (oE (mLst (dsCons (fE (oE (mC (.str "bar")))) (dsCons (fE (oE (mC (.str "carry")))) (dsCons (fE (oE (mC (.str "look")))) dsNil))))) (oE (mCall 2 F_law_take (msCons (oE (mVar 0)) (msCons (oE (mC (.int 3))) msNil))))) (msCons (mOp gIx (oE (mLst (dsCons (fE (oE (mC (.str "bar")))) (dsCons (fE (oE (mC (.str "carry")))) (dsCons (fE (oE (mC (.str "look")))) dsNil))))) (oE (mCall 2 F_law_take (msCons (oE (mVar 0)) (msCons (oE (mC (.int 3))) msNil))))) msNil))) sNext)
    (sSeq (sPar [11, 12] (msCons (mOp gIx (oE (mOp gIx (oE (mVar 1)) (oE (mCall 2 F_law_take (msCons (oE (mVar 0)) (msCons (oE (mCallB gLen (msCons (oE (mVar 1)) msNil))) msNil)))))) (oE (mC (.int 0)))) (msCons (mOp gIx (oE (mLst (dsCons (fE (oE (mC (.str "once")))) (dsCons (fE (oE (mC (.str "end")))) dsNil)))) (oE (mCall 2 F_law_take (msCons (oE (mVar 0)) (msCons (oE (mC (.int 2))) msNil))))) msNil)))
    (sAppend 3 (fE (oE (mTup (dsCons (fE (oE (mVar 5))) (dsCons (fE (oE (mVar 6))) (dsCons (fE (oE (mOp gIx (oE (mOp gIx (oE (mVar 7)) (oE (mVar 8)))) (oE (mC (.int 0)))))) (dsCons (fE (oE (mVar 11))) (dsCons (fE (oE (mVar 9))) (dsCons (fE (oE (mVar 10))) (dsCons (fE (oE (mVar 12))) dsNil)))))))))))))))))
def Zy3 : Sm := (sRet (mCallB gTuple (msCons (oE (mVar 3)) msNil)))
def Zb1 : Sm := (sUnp (fE (oE (mOp gIx (oE (mVar 1)) (oE (mCall 2 F_law_take (msCons (oE (mVar 0)) (msCons (oE (mCallB gLen (msCons (oE (mVar 1)) msNil))) msNil))))))) (.tp [(.nm 6), (.nm 7)]))
def Zb2 : Sm := (sSet 8 (mCallB gMax (msCons (oE (mC (.int 0))) (msCons (oE (mCallB gMin (msCons (oE (mOp M3.gSub (oE (mCallB gLen (msCons (oE (mVar 7)) msNil))) (oE (mC (.int 1))))) (msCons (oE (mOp M3.gSub (oE (mCall 2 F_law_take (msCons (oE (mVar 0)) (msCons (oE (mC (.int 6))) msNil)))) (oE (mC (.int 1))))) msNil)))) msNil))))
def Zb3 : Sm := (sPar [9, 10] (msCons (mOp gIx (oE (mVar 4)) (oE (mCall 2 F_law_take (msCons (oE (mVar 0)) (msCons (oE (mC (.int 6))) msNil))))) (msCons (mOp gIx (oE (mVar 4)) (oE (mCall 2 F_law_take (msCons (oE (mVar 0)) (msCons (oE (mC (.int 6))) msNil))))) msNil)))
def Zb4 : Sm := (sIf (mBl (mOp (bo gEq) (oE (mVar 8)) (oE (mC (.int 0))))) (sPar [9, 10] (msCons (mOp gIx (oE (mLst (dsCons (fE (oE (mC (.str "bar")))) (dsCons (fE (oE (mC (.str "carry")))) (dsCons (fE (oE (mC (.str "look")))) dsNil))))) (oE (mCall 2 F_law_take (msCons (oE (mVar 0)) (msCons (oE (mC (.int 3))) msNil))))) (msCons (mOp gIx (oE (mLst (dsCons (fE (oE (mC (.str "bar")))) (dsCons (fE (oE (mC (.str "carry")))) (dsCons (fE (oE (mC (.str "look")))) dsNil))))) (oE (mCall 2 F_law_take (msCons (oE (mVar 0)) (msCons (oE (mC (.int 3))) msNil))))) msNil))) sNext)
def Zb5 : Sm := (sPar [11, 12] (msCons (mOp gIx (oE (mOp gIx (oE (mVar 1)) (oE (mCall 2 F_law_take (msCons (oE (mVar 0)) (msCons (oE (mCallB gLen (msCons (oE (mVar 1)) msNil))) msNil)))))) (oE (mC (.int 0)))) (msCons (mOp gIx (oE (mLst (dsCons (fE (oE (mC (.str "once")))) (dsCons (fE (oE (mC (.str "end")))) dsNil)))) (oE (mCall 2 F_law_take (msCons (oE (mVar 0)) (msCons (oE (mC (.int 2))) msNil))))) msNil)))
def Zb6 : Sm := (sAppend 3 (fE (oE (mTup (dsCons (fE (oE (mVar 5))) (dsCons (fE (oE (mVar 6))) (dsCons (fE (oE (mOp gIx (oE (mOp gIx (oE (mVar 7)) (oE (mVar 8)))) (oE (mC (.int 0)))))) (dsCons (fE (oE (mVar 11))) (dsCons (fE (oE (mVar 9))) (dsCons (fE (oE (mVar 10))) (dsCons (fE (oE (mVar 12))) dsNil)))))))))))
def Zb : Sm := sSeq Zb1 (sSeq Zb2 (sSeq Zb3 (sSeq Zb4 (sSeq Zb5 Zb6))))
theorem Zy2_is : Zy2 = sFor (mIt (fE (oE (mCall 2 F_law_names (msCons (oE (mVar 0)) (msCons (oE (mCall 2 F_law_take (msCons (oE (mVar 0)) (msCons (oE (mOp gAdd (oE (mVar 2)) (oE (mC (.int 1))))) msNil)))) msNil)))))) (.nm 5) Zb := rfl
theorem B_law_ties_is : B_law_ties = sSeq Zy1 (sSeq Zy2 Zy3) := rfl
def WAYS : List D := [.str "bar", .str "carry", .str "empty", .str "fallback", .str "look", .str "carry"]
theorem way_get {b : Int} (h0 : 0 ≤ b) (h1 : b < 6) : ∃ z ∈ WS, gIx (.list WAYS) (.int b) = some (.val (.str z)) := by
  have : b = 0 ∨ b = 1 ∨ b = 2 ∨ b = 3 ∨ b = 4 ∨ b = 5 := by omega
  rcases this with rfl | rfl | rfl | rfl | rfl | rfl
  · exact ⟨"bar", by simp [WS], by simp [WAYS, gIx, atI, ixN]⟩
  · exact ⟨"carry", by simp [WS], by simp [WAYS, gIx, atI, ixN]⟩
  · exact ⟨"empty", by simp [WS], by simp [WAYS, gIx, atI, ixN]⟩
  · exact ⟨"fallback", by simp [WS], by simp [WAYS, gIx, atI, ixN]⟩
  · exact ⟨"look", by simp [WS], by simp [WAYS, gIx, atI, ixN]⟩
  · exact ⟨"carry", by simp [WS], by simp [WAYS, gIx, atI, ixN]⟩
theorem key_get {b : Int} (h0 : 0 ≤ b) (h1 : b < 3) : ∃ z ∈ KW, gIx (.list [.str "bar", .str "carry", .str "look"]) (.int b) = some (.val (.str z)) := by
  have : b = 0 ∨ b = 1 ∨ b = 2 := by omega
  rcases this with rfl | rfl | rfl
  · exact ⟨"bar", by simp [KW], by simp [gIx, atI, ixN]⟩
  · exact ⟨"carry", by simp [KW], by simp [gIx, atI, ixN]⟩
  · exact ⟨"look", by simp [KW], by simp [gIx, atI, ixN]⟩
theorem late_get {b : Int} (h0 : 0 ≤ b) (h1 : b < 2) : ∃ z ∈ WN, gIx (.list [.str "once", .str "end"]) (.int b) = some (.val (.str z)) := by
  have : b = 0 ∨ b = 1 := by omega
  rcases this with rfl | rfl
  · exact ⟨"once", by simp [WN], by simp [gIx, atI, ixN]⟩
  · exact ⟨"end", by simp [WN], by simp [gIx, atI, ixN]⟩
theorem kw_ws {z : Str} (h : z ∈ KW) : z ∈ WS := by
  simp only [KW, List.mem_cons, List.not_mem_nil, or_false] at h
  rcases h with rfl | rfl | rfl <;> simp [WS]
theorem tbl_get {ts : List M5.TT} {a : Int} (h0 : 0 ≤ a) (h1 : a < ts.length) : ∃ t ∈ ts, gIx (.tuple (ts.map tblD)) (.int a) = some (.val (tblD t)) := by
  have hk : a.toNat < ts.length := by omega
  have ek : ((a.toNat : Nat) : Int) = a := by omega
  have g := gIx_t (ds := ts.map tblD) (k := a.toNat) (d := tblD ts[a.toNat]) (by rw [List.getElem?_map, List.getElem?_eq_getElem hk]; rfl)
  rw [ek] at g
  exact ⟨ts[a.toNat], List.getElem_mem hk, g⟩
theorem key_at : ∀ (cols : List TC) (hz : 0 < cols.length) (z : Str), keyC cols z = (sL (cols[0]).1 == z)
  | [], hz, _ => by simp at hz
  | x :: r, _, z => rfl
theorem zb_ok {ts : List M5.TT} (hT : GoodT ts) (hn : ts ≠ []) (hl : ts.length ≤ 10) {T : Int} {L : List D} (h : Bx T L) (hB : T < 600000) (most : Int) (acc : List D) (hacc : acc.length < 1000) (n : List Nat) (gn : Gn n) (x6 x7 x8 x9 x10 x11 x12 : Option SV) :
    ∃ L' y x6' x7' x8' x9' x10' x11' x12', Bx (T + 10) L' ∧ y.n = n ∧ GoodY ts y ∧ Zb [sB L, fT ts, fI most, some (.own (.lst acc)), some (.own (.lst WAYS)), some (.fro (dL n)), x6, x7, x8, x9, x10, x11, x12] = .nx [sB L', fT ts, fI most, some (.own (.lst (acc ++ [tieD y]))), some (.own (.lst WAYS)), some (.fro (dL n)), x6', x7', x8', x9', x10', x11', x12'] := by
  have hpos := List.length_pos_iff.mpr hn
  obtain ⟨a, L1, a0, a1, h1, e1⟩ := takeB (m := (ts.length : Int)) h (by omega) (by omega) (by omega)
  obtain ⟨t, ht, ga⟩ := tbl_get a0 a1
  have gc := (hT.g t ht).2
  have hcl : 1 ≤ t.2.length ∧ t.2.length ≤ 5 := ⟨List.length_pos_iff.mpr gc.ne, gc.l⟩
  have f1 : Zb1 [sB L, fT ts, fI most, some (.own (.lst acc)), some (.own (.lst WAYS)), some (.fro (dL n)), x6, x7, x8, x9, x10, x11, x12] = .nx [sB L1, fT ts, fI most, some (.own (.lst acc)), some (.own (.lst WAYS)), some (.fro (dL n)), some (.fro (dL t.1)), some (.fro (.tuple (t.2.map colD))), x8, x9, x10, x11, x12] := by simp [Zb1, gLen, e1, ga, tblD]
  obtain ⟨k, L2, k0, k1, h2, e2⟩ := takeB (m := 6) h1 (by omega) (by omega) (by omega)
  obtain ⟨q, hq⟩ : ∃ q : Int, q = if k - 1 < (t.2.length : Int) - 1 then k - 1 else (t.2.length : Int) - 1 := ⟨_, rfl⟩
  obtain ⟨p, hp⟩ : ∃ p : Int, p = if q > 0 then q else 0 := ⟨_, rfl⟩
  have gm1 : gMin [.int ((t.2.length : Int) - 1), .int (k - 1)] = some (.val (.int q)) := by rw [hq]; rfl
  have gm2 : gMax [.int 0, .int q] = some (.val (.int p)) := by rw [hp]; rfl
  have p0 : 0 ≤ p ∧ p < t.2.length := by
    rw [hp]
    split
    · rw [hq]; split <;> omega
    · omega
  have f2 : Zb2 [sB L1, fT ts, fI most, some (.own (.lst acc)), some (.own (.lst WAYS)), some (.fro (dL n)), some (.fro (dL t.1)), some (.fro (.tuple (t.2.map colD))), x8, x9, x10, x11, x12] = .nx [sB L2, fT ts, fI most, some (.own (.lst acc)), some (.own (.lst WAYS)), some (.fro (dL n)), some (.fro (dL t.1)), some (.fro (.tuple (t.2.map colD))), fI p, x9, x10, x11, x12] := by simp [Zb2, gLen, gSub_i, e2, gm1, gm2]
  obtain ⟨b1, L3, b10, b11, h3, e3⟩ := takeB (m := 6) h2 (by omega) (by omega) (by omega)
  obtain ⟨b2, L4, b20, b21, h4, e4⟩ := takeB (m := 6) h3 (by omega) (by omega) (by omega)
  obtain ⟨g1, hg1, gg1⟩ := way_get b10 b11
  obtain ⟨u1, hu1, gu1⟩ := way_get b20 b21
  have f3 : Zb3 [sB L2, fT ts, fI most, some (.own (.lst acc)), some (.own (.lst WAYS)), some (.fro (dL n)), some (.fro (dL t.1)), some (.fro (.tuple (t.2.map colD))), fI p, x9, x10, x11, x12] = .nx [sB L4, fT ts, fI most, some (.own (.lst acc)), some (.own (.lst WAYS)), some (.fro (dL n)), some (.fro (dL t.1)), some (.fro (.tuple (t.2.map colD))), fI p, some (.fro (.str g1)), some (.fro (.str u1)), x11, x12] := by simp [Zb3, e3, e4, gg1, gu1]
  have f4 : ∃ L5 g u, Bx (T + 6) L5 ∧ g ∈ WS ∧ u ∈ WS ∧ (p = 0 → g ∈ KW ∧ u ∈ KW) ∧ Zb4 [sB L4, fT ts, fI most, some (.own (.lst acc)), some (.own (.lst WAYS)), some (.fro (dL n)), some (.fro (dL t.1)), some (.fro (.tuple (t.2.map colD))), fI p, some (.fro (.str g1)), some (.fro (.str u1)), x11, x12] = .nx [sB L5, fT ts, fI most, some (.own (.lst acc)), some (.own (.lst WAYS)), some (.fro (dL n)), some (.fro (dL t.1)), some (.fro (.tuple (t.2.map colD))), fI p, some (.fro (.str g)), some (.fro (.str u)), x11, x12] := by
    by_cases hp0 : p = 0
    · obtain ⟨c1, L5, c10, c11, h5, e5⟩ := takeB (m := 3) h4 (by omega) (by omega) (by omega)
      obtain ⟨c2, L6, c20, c21, h6, e6⟩ := takeB (m := 3) h5 (by omega) (by omega) (by omega)
      obtain ⟨g2, hg2, gg2⟩ := key_get c10 c11
      obtain ⟨u2, hu2, gu2⟩ := key_get c20 c21
      have h3s : (3 : Nat) ≤ sizeLine := sz_of (by omega)
      exact ⟨L6, g2, u2, h6.mono (by omega), kw_ws hg2, kw_ws hu2, fun _ => ⟨hg2, hu2⟩, by simp [Zb4, gEq_int, hp0, h3s, e5, e6, gg2, gu2]⟩
    · exact ⟨L4, g1, u1, h4.mono (by omega), hg1, hu1, fun z => absurd z hp0, by simp [Zb4, gEq_int, hp0]⟩
  obtain ⟨L5, g, u, h5, hg, hu, hk, f4⟩ := f4
  obtain ⟨d, L6, d0, d1, h6, e6⟩ := takeB (m := (ts.length : Int)) h5 (by omega) (by omega) (by omega)
  obtain ⟨o, ho, gd⟩ := tbl_get d0 d1
  have go : gIx (tblD o) (.int 0) = some (.val (dL o.1)) := by simp [tblD, gIx, atI, ixN]
  obtain ⟨v, L7, v0, v1, h7, e7⟩ := takeB (m := 2) h6 (by omega) (by omega) (by omega)
  obtain ⟨w, hw, gw⟩ := late_get v0 v1
  have h2s := M4.two_le
  have f5 : Zb5 [sB L5, fT ts, fI most, some (.own (.lst acc)), some (.own (.lst WAYS)), some (.fro (dL n)), some (.fro (dL t.1)), some (.fro (.tuple (t.2.map colD))), fI p, some (.fro (.str g)), some (.fro (.str u)), x11, x12] = .nx [sB L7, fT ts, fI most, some (.own (.lst acc)), some (.own (.lst WAYS)), some (.fro (dL n)), some (.fro (dL t.1)), some (.fro (.tuple (t.2.map colD))), fI p, some (.fro (.str g)), some (.fro (.str u)), some (.fro (dL o.1)), some (.fro (.str w))] := by simp [Zb5, gLen, e6, gd, go, e7, gw, h2s]
  have hpn : p.toNat < t.2.length := by omega
  have ep : ((p.toNat : Nat) : Int) = p := by omega
  have gcp := gIx_t (ds := t.2.map colD) (k := p.toNat) (d := colD t.2[p.toNat]) (by rw [List.getElem?_map, List.getElem?_eq_getElem hpn]; rfl)
  rw [ep] at gcp
  have gc0 : gIx (colD t.2[p.toNat]) (.int 0) = some (.val (dL (t.2[p.toNat]).1)) := by simp [colD, gIx, atI, ixN]
  have h7s : (7 : Nat) ≤ sizeLine := sz_of (by omega)
  have hsz : acc.length < sizeLine := by rw [sizeLine_eq]; omega
  have cm : t.2[p.toNat] ∈ t.2 := List.getElem_mem hpn
  have ck : p ≠ 0 → keyC t.2 (sL (t.2[p.toNat]).1) = false := fun hp0 => by
    have nd := gc.nd
    rw [List.nodup_iff_pairwise_ne] at nd
    have hz : 0 < t.2.length := by omega
    have := (List.pairwise_iff_getElem.mp nd) 0 p.toNat (by rw [List.length_map]; exact hz) (by rw [List.length_map]; exact hpn) (by omega)
    rw [List.getElem_map, List.getElem_map] at this
    have e0 := key_at t.2 hz (sL (t.2[p.toNat]).1)
    rw [e0]
    have ne : sL (t.2[0]).1 ≠ sL (t.2[p.toNat]).1 := fun z => this (sL_inj z)
    simpa using ne
  refine ⟨L7, ⟨n, t, t.2[p.toNat], o, g, u, w⟩, some (.fro (dL t.1)), some (.fro (.tuple (t.2.map colD))), fI p, some (.fro (.str g)), some (.fro (.str u)), some (.fro (dL o.1)), some (.fro (.str w)), h7.mono (by omega), rfl, ⟨gn, ht, cm, ho, ⟨hg, ?_⟩, ⟨hu, ?_⟩, hw⟩, ?_⟩
  · by_cases hp0 : p = 0
    · exact .inl (hk hp0).1
    · exact .inr (ck hp0)
  · by_cases hp0 : p = 0
    · exact .inl (hk hp0).2
    · exact .inr (ck hp0)
  · unfold Zb
    rw [x_seq, f1, x_q1, x_seq, f2, x_q1, x_seq, f3, x_q1, x_seq, f4, x_q1, x_seq, f5, x_q1]
    simp [Zb6, gcp, gc0, h7s, hsz, tieD]
/-- ties drawn -/
theorem tiesC {ts : List M5.TT} (hT : GoodT ts) (hn : ts ≠ []) (hl : ts.length ≤ 10) {T : Int} {L : List D} (h : Bx T L) (hB : T < 500000) (most : Int) (hm : 0 ≤ most) (hm2 : most ≤ 11) :
    ∃ (L' : List D) (ys : List TY), Bx (T + 200) L' ∧ (ys.length : Int) ≤ most ∧ (ys.map (·.n)).Nodup ∧ (∀ y ∈ ys, GoodY ts y) ∧ F_law_ties [sB L, fT ts, fI most] = .ok (.fro (.tuple (ys.map tieD))) [sB L', fT ts, fI most] := by
  obtain ⟨j, L1, j0, j1, h1, e1⟩ := takeB (m := most + 1) h (by omega) (by omega) (by omega)
  obtain ⟨L2, NL, h2, n1, n2, n3, e2⟩ := namesC h1 (by omega) j (by omega) (by omega)
  have h0s : (0 : Nat) ≤ sizeLine := sz_of (by omega)
  have h6s : (6 : Nat) ≤ sizeLine := sz_of (by omega)
  have f1 : Zy1 [sB L, fT ts, fI most, none, none, none, none, none, none, none, none, none, none] = .nx [sB L, fT ts, fI most, some (.own (.lst [])), some (.own (.lst WAYS)), none, none, none, none, none, none, none, none] := by
    simp [Zy1, h0s, h6s, WAYS]
  obtain ⟨ε', f2, L3, ys, x5, x6, x7, x8, x9, x10, x11, x12, k1, k2, k3, rfl⟩ := loop_nx (p := .nm 5) (body := Zb) (fun i ε => ∃ (L' : List D) (ys : List TY) (x5 x6 x7 x8 x9 x10 x11 x12 : Option SV), Bx (T + 13 + 10 * (i : Int)) L' ∧ ys.map (·.n) = NL.take i ∧ (∀ y ∈ ys, GoodY ts y) ∧
      ε = [sB L', fT ts, fI most, some (.own (.lst (ys.map tieD))), some (.own (.lst WAYS)), x5, x6, x7, x8, x9, x10, x11, x12])
    (ds := NL.map dL) (k := 0) (ε := [sB L2, fT ts, fI most, some (.own (.lst [])), some (.own (.lst WAYS)), none, none, none, none, none, none, none, none])
    ⟨L2, [], _, _, _, _, _, _, _, _, h2.mono (by omega), by simp, (fun _ h => by cases h), rfl⟩ (fun i d ε hi hI => by
      obtain ⟨L', ys, x5, x6, x7, x8, x9, x10, x11, x12, k1, k2, k3, rfl⟩ := hI
      obtain ⟨n, hni, rfl⟩ := get_map hi
      rw [Nat.zero_add] at *
      have hil := lt_get hni
      have hr : ys.length = i := by
        have := congrArg List.length k2
        rw [List.length_map, List.length_take] at this
        omega
      obtain ⟨L5, y, y6, y7, y8, y9, y10, y11, y12, h5, yn, gy, e⟩ := zb_ok hT hn hl k1 (by omega) most (ys.map tieD) (by rw [List.length_map]; omega) n (n2 n (List.mem_of_getElem? hni)) x6 x7 x8 x9 x10 x11 x12
      exact ⟨[sB L', fT ts, fI most, some (.own (.lst (ys.map tieD))), some (.own (.lst WAYS)), some (.fro (dL n)), x6, x7, x8, x9, x10, x11, x12], _, by simp, e, L5, ys ++ [y], _, y6, y7, y8, y9, y10, y11, y12, h5.mono (by omega), by rw [List.map_append, k2, take_get hni, List.map_singleton, yn], (fun z hz => by
        rcases List.mem_append.mp hz with hz | hz
        · exact k3 z hz
        · rw [List.mem_singleton.mp hz]; exact gy), by rw [List.map_append]; rfl⟩)
  rw [List.length_map, Nat.zero_add] at *
  rw [List.take_length] at k2
  have hyl : ys.length = NL.length := by rw [← k2, List.length_map]
  have hsz : (ys.map tieD).length ≤ sizeLine := by rw [List.length_map]; exact sz_of (by omega)
  refine ⟨L3, ys, k1.mono (by omega), by omega, by rw [k2]; exact n3, k3, ?_⟩
  have f3 : Zy2 [sB L, fT ts, fI most, some (.own (.lst [])), some (.own (.lst WAYS)), none, none, none, none, none, none, none, none] = .nx [sB L3, fT ts, fI most, some (.own (.lst (ys.map tieD))), some (.own (.lst WAYS)), x5, x6, x7, x8, x9, x10, x11, x12] := by
    simp [Zy2_is, gAdd_i, e1, e2, f2]
  have f4 : Zy3 [sB L3, fT ts, fI most, some (.own (.lst (ys.map tieD))), some (.own (.lst WAYS)), x5, x6, x7, x8, x9, x10, x11, x12] = .rt (.fro (.tuple (ys.map tieD))) [sB L3, fT ts, fI most, some (.own (.lst (ys.map tieD))), some (.own (.lst WAYS)), x5, x6, x7, x8, x9, x10, x11, x12] := by
    generalize ys.map tieD = G at *
    simp [Zy3, gTuple, outR, hsz]
  unfold F_law_ties
  exact fn_rt (E := [sB L, fT ts, fI most, none, none, none, none, none, none, none, none, none, none]) rfl (by simp) rfl (by rw [B_law_ties_is, x_seq, f1, x_q1, x_seq, f3, x_q1, f4]) rfl
end GC

namespace GC
open PySem PySem.Spec L2 M3 M4 M5
open PyProof.Rows hiding St
@[simp] theorem x_raise {cls : Str} {fs : List Str} {dm : M (List D)} {ε : En} : sRaise cls fs dm ε = (dm ε).toS fun ds ε1 => if ds.length = fs.length ∧ fs.length ≤ 900 then .err ⟨cls, (fs.zip ds).reverse⟩ ε1 else .bad := rfl

theorem tl_found (a0 : Option SV) : ∀ (xs : List M5.TT) (i k : Nat) (x y w : Option SV) (t : M5.TT), (∀ t ∈ xs, Gn t.1) → (xs.map (·.1)).Nodup → xs[k]? = some t →
    ∃ y' w', sLoop (.tp [.nm 2, .tp [.nm 3, .nm 4]]) (sIf (mBl (mOp (bo gEq) (oE (mVar 3)) (oE (mVar 1)))) (sRet (mVar 2)) sNext) (enumD i (xs.map tblD)) [a0, fS (sL t.1), x, y, w] = .rt (.fro (.int ((i + k : Nat) : Int))) [a0, fS (sL t.1), some (.fro (.int ((i + k : Nat) : Int))), y', w']
  | [], _, _, _, _, _, _, _, _, h => by cases h
  | s :: xs, i, k, x, y, w, t, hg, hn, h => by
    have gt : Gn t.1 := hg t (List.mem_of_getElem? h)
    have g := gEq_str (hg s List.mem_cons_self).shd gt.shd
    rw [List.map_cons, List.nodup_cons] at hn
    cases k with
    | zero =>
      cases h
      have g' : gEq (dL s.1) (.str (sL s.1)) = some true := by
        rw [beq_self_eq_true] at g; exact g
      exact ⟨some (.fro (dL s.1)), some (.fro (.tuple (s.2.map colD))), by rw [List.map_cons]; unfold enumD sLoop; simp [tblD, g']⟩
    | succ k =>
      have h' : xs[k]? = some t := h
      have ne : sL s.1 ≠ sL t.1 := fun z => hn.1 (by rw [sL_inj z]; exact List.mem_map_of_mem (List.mem_of_getElem? h'))
      have g' : gEq (dL s.1) (.str (sL t.1)) = some false := by
        have h2 : (sL s.1 == sL t.1) = false := by simpa using ne
        rw [h2] at g; exact g
      obtain ⟨y', w', e1⟩ := tl_found a0 xs (i + 1) k (fI i) (some (.fro (dL s.1))) (some (.fro (.tuple (s.2.map colD)))) t (fun s hs => hg s (List.mem_cons_of_mem _ hs)) hn.2 h'
      have ek : i + 1 + k = i + (k + 1) := by omega
      rw [ek] at e1
      exact ⟨y', w', by rw [List.map_cons]; unfold enumD sLoop; simp [tblD, g', e1]⟩
theorem cl_found (a0 a1 : Option SV) : ∀ (xs : List TC) (i k : Nat) (x y w : Option SV) (t : TC), (∀ t ∈ xs, Gn t.1) → (xs.map (·.1)).Nodup → xs[k]? = some t →
    ∃ y' w', sLoop (.tp [.nm 3, .tp [.nm 4, .nm 5]]) (sIf (mBl (mOp (bo gEq) (oE (mVar 4)) (oE (mVar 2)))) (sRet (mVar 3)) sNext) (enumD i (xs.map colD)) [a0, a1, fS (sL t.1), x, y, w] = .rt (.fro (.int ((i + k : Nat) : Int))) [a0, a1, fS (sL t.1), some (.fro (.int ((i + k : Nat) : Int))), y', w']
  | [], _, _, _, _, _, _, _, _, h => by cases h
  | s :: xs, i, k, x, y, w, t, hg, hn, h => by
    have gt : Gn t.1 := hg t (List.mem_of_getElem? h)
    have g := gEq_str (hg s List.mem_cons_self).shd gt.shd
    rw [List.map_cons, List.nodup_cons] at hn
    cases k with
    | zero =>
      cases h
      have g' : gEq (dL s.1) (.str (sL s.1)) = some true := by
        rw [beq_self_eq_true] at g; exact g
      exact ⟨some (.fro (dL s.1)), some (.fro s.2), by rw [List.map_cons]; unfold enumD sLoop; simp [colD, g']⟩
    | succ k =>
      have h' : xs[k]? = some t := h
      have ne : sL s.1 ≠ sL t.1 := fun z => hn.1 (by rw [sL_inj z]; exact List.mem_map_of_mem (List.mem_of_getElem? h'))
      have g' : gEq (dL s.1) (.str (sL t.1)) = some false := by
        have h2 : (sL s.1 == sL t.1) = false := by simpa using ne
        rw [h2] at g; exact g
      obtain ⟨y', w', e1⟩ := cl_found a0 a1 xs (i + 1) k (fI i) (some (.fro (dL s.1))) (some (.fro s.2)) t (fun s hs => hg s (List.mem_cons_of_mem _ hs)) hn.2 h'
      have ek : i + 1 + k = i + (k + 1) := by omega
      rw [ek] at e1
      exact ⟨y', w', by rw [List.map_cons]; unfold enumD sLoop; simp [colD, g', e1]⟩
section
variable {ts : List M5.TT} (hT : GoodT ts)
include hT
theorem e_tp {k : Nat} {t : M5.TT} (h : ts[k]? = some t) : F_table_place [fT ts, fS (sL t.1)] = .ok (.fro (.int (k : Int))) [fT ts, fS (sL t.1)] := by
  obtain ⟨y', w', e⟩ := tl_found (fT ts) ts 0 k none none none t (fun t ht => (hT.g t ht).1) hT.nd h
  rw [Nat.zero_add] at e
  simp [F_table_place, B_table_place, e]
theorem e_co {k : Nat} {t : M5.TT} (h : ts[k]? = some t) : F_columns_of [fT ts, fS (sL t.1)] = .ok (.fro (.tuple (t.2.map colD))) [fT ts, fS (sL t.1)] := by
  have e := e_tp hT h
  have g1 := gIx_t (ds := ts.map tblD) (k := k) (d := tblD t) (by rw [List.getElem?_map, h]; rfl)
  have g2 : gIx (tblD t) (.int 1) = some (.val (.tuple (t.2.map colD))) := by simp [tblD, gIx, atI, ixN]
  simp [F_columns_of, B_columns_of, e, g1, g2]
theorem e_cp {k j : Nat} {t : M5.TT} {c : TC} (h : ts[k]? = some t) (hc : t.2[j]? = some c) : F_column_place [fT ts, fS (sL t.1), fS (sL c.1)] = .ok (.fro (.int (j : Int))) [fT ts, fS (sL t.1), fS (sL c.1)] := by
  have gc := (hT.g t (List.mem_of_getElem? h)).2
  obtain ⟨y', w', e⟩ := cl_found (fT ts) (fS (sL t.1)) t.2 0 j none none none c (fun c hc => (gc.g c hc).1) gc.nd hc
  rw [Nat.zero_add] at e
  simp [F_column_place, B_column_place, e_co hT h, e]
end
/-! ### ties -/
/-- a plan, as told or as lists -/
structure Pl (P T Yd : D) (g : TY → D) (ys : List TY) : Prop where
  g0 : gIx P (.int 0) = some (.val T)
  g1 : gIx P (.int 1) = some (.val Yd)
  it : itemsD Yd = some (ys.map g)
  tp : ∀ y ∈ ys, ∀ ε : En, outR (gTuple [g y]) ε = .ok (.fro (tieD y)) ε
  n : ∀ y ∈ ys, gIx (g y) (.int 0) = some (.val (dL y.n))
  o : ∀ y ∈ ys, gIx (g y) (.int 3) = some (.val (dL y.o.1))
section
variable {P T Yd : D} {g : TY → D} {ys : List TY} (hp : Pl P T Yd g ys) (hg : ∀ y ∈ ys, Gn y.n ∧ Gn y.o.1)
include hp hg
end
end GC

namespace GC
open PySem PySem.Spec L2 M3 M4 M5
open PyProof.Rows hiding St
/-! ### _law_same of a thing and itself -/
def Sw : Nat → D → Prop
  | _, .none => True
  | _, .bool _ => True
  | _, .int _ => True
  | _, .str _ => True
  | n + 1, .list ds => ds.length ≤ 1000 ∧ ∀ x ∈ ds, Sw n x
  | n + 1, .tuple ds => ds.length ≤ 1000 ∧ ∀ x ∈ ds, Sw n x
  | _, _ => False
theorem zip_same : ∀ ds : List D, zipD ds ds = ds.map fun x => .tuple [x, x]
  | [] => rfl
  | x :: ds => by
    show .tuple [x, x] :: zipD ds ds = _
    rw [zip_same ds]; rfl
theorem gNe_bool (a b : Bool) : gNe (.bool a) (.bool b) = some (!(a == b)) := by
  unfold gNe
  rw [if_pos ⟨sh_bool a, sh_bool b⟩]
  simp [PyData.eqv]
theorem trues : ∀ n : Nat, blsD (List.replicate n (PyData.bool true)) = some (List.replicate n true)
  | 0 => rfl
  | n + 1 => by
    have := trues n
    rw [List.replicate_succ, List.replicate_succ]
    simp [blsD, this]
theorem trues2 (ds : List D) : blsD (ds.map fun _ => PyData.bool true) = some (List.replicate ds.length true) := by
  have e : (ds.map fun _ => PyData.bool true) = List.replicate ds.length (PyData.bool true) := List.map_const' ..
  rw [e, trues]
theorem same_seq (G : M RV) (X : D) (ds : List D) (hX : X = .list ds ∨ X = .tuple ds) (hl : ds.length ≤ 1000) (h : ∀ x ∈ ds, G [some (.fro x), some (.fro x)] = .ok (.fro (.bool true)) [some (.fro x), some (.fro x)]) :
    fnF [0, 1] 4 (B_law_same G) [some (.fro X), some (.fro X)] = .ok (.fro (.bool true)) [some (.fro X), some (.fro X)] := by
  have e := lc_map (p := .tp [.nm 2, .nm 3]) (vs := [2, 3]) (m := fE (oE (mCall 2 G (msCons (oE (mVar 2)) (msCons (oE (mVar 3)) msNil))))) (g := fun x => .tuple [x, x]) (f := fun _ => .bool true) (ε := [some (.fro X), some (.fro X), none, none]) (xs := ds) (acc := [])
    (fun x hx => ⟨_, _, by simp; rfl, by simp [h x hx]; rfl, by simp⟩) (by have := sz_of hl; simpa using this)
  rcases hX with rfl | rfl
  · simp [B_law_same, isiAny, isi_list, isi_tuple, is_list, is_tuple, gNe_bool, gLen, gEq_int, seqD, mZip, zip_same, e, gAll, trues, trues2]
  · simp [B_law_same, isiAny, isi_list, isi_tuple, is_list, is_tuple, gNe_bool, gLen, gEq_int, seqD, mZip, zip_same, e, gAll, trues, trues2]
theorem same_ok : ∀ (n : Nat) (d : D), Sw n d → F_law_same (n + 1) [some (.fro d), some (.fro d)] = .ok (.fro (.bool true)) [some (.fro d), some (.fro d)]
  | n, .none, _ => by
    have e : gEq .none .none = some true := by decide +kernel
    simp [F_law_same, B_law_same, isiAny, isi_list, isi_tuple, is_list, is_tuple, gIsN, isNoneD, e, isi_bool, M4.is_bool, gEq_bool]
  | n, .bool b, _ => by simp [F_law_same, B_law_same, isiAny, isi_list, isi_tuple, is_list, is_tuple, gIsN, isNoneD, isi_bool, M4.is_bool, isi_str, is_str, gEq_bool]
  | n, .int b, _ => by simp [F_law_same, B_law_same, isiAny, isi_list, isi_tuple, is_list, is_tuple, gIsN, isNoneD, isi_bool, M4.is_bool, isi_str, is_str, isi_int, M4.is_int, gEq_int]
  | n, .str b, _ => by simp [F_law_same, B_law_same, isiAny, isi_list, isi_tuple, is_list, is_tuple, gIsN, isNoneD, isi_bool, M4.is_bool, isi_str, is_str, gEq_same, gEq_bool]
  | 0, .list ds, h => h.elim
  | 0, .tuple ds, h => h.elim
  | n + 1, .list ds, h => by
    unfold Sw at h
    exact same_seq (F_law_same (n + 1)) (.list ds) ds (.inl rfl) h.1 fun x hx => same_ok n x (h.2 x hx)
  | n + 1, .tuple ds, h => by
    unfold Sw at h
    exact same_seq (F_law_same (n + 1)) (.tuple ds) ds (.inr rfl) h.1 fun x hx => same_ok n x (h.2 x hx)
  | 0, .dict _, h => h.elim
  | n + 1, .dict _, h => h.elim
theorem same12 {d : D} (h : Sw 11 d) : F_law_same 12 [some (.fro d), some (.fro d)] = .ok (.fro (.bool true)) [some (.fro d), some (.fro d)] := same_ok 11 d h

/-! ### where a name stands -/
theorem keys_L : ∀ ls : List (List Nat), keysD (ls.map dL) = some (ls.map fun l => (Sum.inr (sL l) : Key))
  | [] => rfl
  | l :: ls => by
    rw [List.map_cons, List.map_cons]
    show (keysD (ls.map dL)).map _ = _
    rw [keys_L ls]
    rfl
theorem ixK_L : ∀ {ls : List (List Nat)} {k : Nat} {x : List Nat}, ls.Nodup → ls[k]? = some x → ixK (.inr (sL x)) (ls.map fun l => (Sum.inr (sL l) : Key)) = some k
  | [], _, _, _, h => by cases h
  | l :: ls, 0, x, _, h => by
    cases h
    rw [List.map_cons]
    unfold ixK
    rw [if_pos rfl]
  | l :: ls, k + 1, x, hn, h => by
    have h' : ls[k]? = some x := h
    have hn2 := List.nodup_cons.mp hn
    have ne : (Sum.inr (sL l) : Key) ≠ Sum.inr (sL x) := fun z => by
      injection z with z
      exact hn2.1 (by rw [sL_inj z]; exact List.mem_of_getElem? h')
    rw [List.map_cons]
    unfold ixK
    rw [if_neg ne, ixK_L hn2.2 h']
    rfl
theorem gIdx_L {ls : List (List Nat)} {k : Nat} {x : List Nat} (hn : ls.Nodup) (h : ls[k]? = some x) : gIndex (.list (ls.map dL)) [dL x] = some (.val (.int (k : Int))) := by
  have e1 := keys_L ls
  have e2 : keysD [dL x] = some [(Sum.inr (sL x) : Key)] := rfl
  unfold gIndex
  dsimp only
  rw [e1, e2]
  dsimp only
  rw [ixK_L hn h]
  rfl
theorem e_place {ts : List M5.TT} (hT : GoodT ts) (hl : ts.length ≤ 100) {k : Nat} {t : M5.TT} (h : ts[k]? = some t) : F_law_place [fT ts, some (.fro (dL t.1))] = .ok (.fro (.int (k : Int))) [fT ts, some (.fro (dL t.1))] := by
  have e := lc_map (p := .tp [.nm 2, .nm 3]) (vs := [2, 3]) (m := fE (oE (mVar 2))) (g := tblD) (f := fun t => dL t.1) (ε := [fT ts, some (.fro (dL t.1)), none, none]) (xs := ts) (acc := [])
    (fun s hs => ⟨[fT ts, some (.fro (dL t.1)), some (.fro (dL s.1)), some (.fro (.tuple (s.2.map colD)))], [fT ts, some (.fro (dL t.1)), some (.fro (dL s.1)), some (.fro (.tuple (s.2.map colD)))], by simp [tblD], by simp, by simp⟩) (by simpa using sz_of (by omega))
  have em : (ts.map fun t => dL t.1) = (ts.map (·.1)).map dL := by rw [List.map_map]; rfl
  have g := gIdx_L hT.nd (k := k) (x := t.1) (by rw [List.getElem?_map, h]; rfl)
  rw [List.nil_append, em] at e
  generalize (ts.map (·.1)).map dL = Z at *
  simp [F_law_place, B_law_place, e, g]
theorem e_column {ts : List M5.TT} (hT : GoodT ts) (hl : ts.length ≤ 100) {k j : Nat} {t : M5.TT} {c : TC} (h : ts[k]? = some t) (hc : t.2[j]? = some c) : F_law_column [fT ts, some (.fro (dL t.1)), some (.fro (dL c.1))] = .ok (.fro (.int (j : Int))) [fT ts, some (.fro (dL t.1)), some (.fro (dL c.1))] := by
  have gc := (hT.g t (List.mem_of_getElem? h)).2
  have g5 := gc.l
  have e0 := e_place hT hl h
  have g1 := gIx_t (ds := ts.map tblD) (k := k) (d := tblD t) (by rw [List.getElem?_map, h]; rfl)
  have g2 : gIx (tblD t) (.int 1) = some (.val (.tuple (t.2.map colD))) := by simp [tblD, gIx, atI, ixN]
  have e := lc_map (p := .tp [.nm 3, .nm 4]) (vs := [3, 4]) (m := fE (oE (mVar 3))) (g := colD) (f := fun c => dL c.1) (ε := [fT ts, some (.fro (dL t.1)), some (.fro (dL c.1)), none, none]) (xs := t.2) (acc := [])
    (fun s hs => ⟨[fT ts, some (.fro (dL t.1)), some (.fro (dL c.1)), some (.fro (dL s.1)), some (.fro s.2)], [fT ts, some (.fro (dL t.1)), some (.fro (dL c.1)), some (.fro (dL s.1)), some (.fro s.2)], by simp [colD], by simp, by simp⟩) (by simpa using sz_of (by omega))
  have em : (t.2.map fun c => dL c.1) = (t.2.map (·.1)).map dL := by rw [List.map_map]; rfl
  have g := gIdx_L gc.nd (k := j) (x := c.1) (by rw [List.getElem?_map, hc]; rfl)
  rw [List.nil_append, em] at e
  generalize (t.2.map (·.1)).map dL = Z at *
  simp [F_law_column, B_law_column, e0, g1, g2, e, g]
end GC

namespace GC
open PySem PySem.Spec L2 M3 M4 M5
open PyProof.Rows hiding St
def Cn1 : Sm := (sPar [4, 5] (msCons (mLst dsNil) (msCons (mLst dsNil) msNil)))
def Cn2 : Sm := (sFor (mIt (fE (oE (mVar 1)))) (.nm 6) (sSeq (sSet 7 (mLc (mRng1 (msCons (oE (mCall 2 F_law_take (msCons (oE (mVar 0)) (msCons (oE (mOp gAdd (oE (mVar 3)) (oE (mC (.int 1))))) msNil)))) msNil)) (.nm 8) [8] mYes (fE (oE (mOp M3.gSub (oE (mCall 2 F_law_take (msCons (oE (mVar 0)) (msCons (oE (mC (.int 12))) msNil)))) (oE (mC (.int 3))))))))
    (sAppend 4 (fE (oE (mSortSet (oE (mOp gAdd (oE (mVar 7)) (oE (mOp gMul (oE (mLst (dsCons (fE (oE (mOp gPow (oE (mC (.int 10))) (oE (mC (.int 9)))))) dsNil))) (oE (mCallB gInt (msCons (oE (mOp (bo gEq) (oE (mCall 2 F_law_take (msCons (oE (mVar 0)) (msCons (oE (mC (.int 9))) msNil)))) (oE (mC (.int 0))))) msNil)))))))))))))
def Cn3 : Sm := (sFor (mEnum (dsCons (fE (oE (mVar 1))) dsNil)) (.tp [(.nm 9), (.tp [(.nm 6), (.nm 10)])]) (sSeq (sSet 11 (mLst dsNil))
    (sSeq (sFor (mIt (fE (oE (mOp gIx (oE (mVar 4)) (oE (mVar 9)))))) (.nm 12) (sSeq (sSet 13 (mLst (dsCons (fE (oE (mVar 12))) dsNil)))
    (sSeq (sFor (mIt (fE (oE (mSl gSl (oE (mVar 10)) (mPart (oE (mC (.int 1)))) mNoPart)))) (.tp [(.nm 14), (.nm 15)]) (sSeq (sSet 16 (mLc (mIt (fE (oE (mVar 2)))) (.nm 17) [17] (mBl (mOp (bo gEq) (oE (mSl gSl (oE (mVar 17)) (mPart (oE (mC (.int 1)))) (mPart (oE (mC (.int 3)))))) (oE (mTup (dsCons (fE (oE (mVar 6))) (dsCons (fE (oE (mVar 14))) dsNil)))))) (fE (oE (mOp gIx (oE (mVar 17)) (oE (mC (.int 3))))))))
    (sSeq (sSet 7 (mLst (dsCons (fE (oE (mC (.int 0)))) (dsCons (fE (oE (mC (.int 1)))) (dsCons (fE (oE (mC (.int 2)))) dsNil)))))
    (sSeq (sIf (mBl (mOp (bo gNe) (oE (mVar 16)) (oE (mLst dsNil)))) (sSet 7 (mOp gIx (oE (mVar 4)) (oE (mCall 2 F_law_place (msCons (oE (mVar 1)) (msCons (oE (mOp gIx (oE (mVar 16)) (oE (mCall 2 F_law_take (msCons (oE (mVar 0)) (msCons (oE (mCallB gLen (msCons (oE (mVar 16)) msNil))) msNil)))))) msNil)))))) sNext)
    (sSeq (sSet 18 (mOp gAdd (oE (mLst (dsCons (fE (oE (mC .none))) (dsCons (fE (oE (mVar 15))) (dsCons (fE (oE (mOp M3.gSub (oE (mCall 2 F_law_take (msCons (oE (mVar 0)) (msCons (oE (mC (.int 12))) msNil)))) (oE (mC (.int 3)))))) dsNil))))) (oE (mSl gSl (oE (mOp gAdd (oE (mOp gAdd (oE (mVar 7)) (oE (mVar 7)))) (oE (mVar 7)))) mNoPart (mPart (oE (mC (.int 24))))))))
    (sAppend 13 (fE (oE (mOp gIx (oE (mVar 18)) (oE (mCall 2 F_law_take (msCons (oE (mVar 0)) (msCons (oE (mCallB gLen (msCons (oE (mVar 18)) msNil))) msNil)))))))))))))
    (sAppend 11 (fE (oE (mCallB gTuple (msCons (oE (mVar 13)) msNil))))))))
    (sAppend 5 (fE (oE (mVar 11)))))))
def Cn4 : Sm := (sRet (mVar 5))
def Ca1 : Sm := (sSet 7 (mLc (mRng1 (msCons (oE (mCall 2 F_law_take (msCons (oE (mVar 0)) (msCons (oE (mOp gAdd (oE (mVar 3)) (oE (mC (.int 1))))) msNil)))) msNil)) (.nm 8) [8] mYes (fE (oE (mOp M3.gSub (oE (mCall 2 F_law_take (msCons (oE (mVar 0)) (msCons (oE (mC (.int 12))) msNil)))) (oE (mC (.int 3))))))))
def Ca2 : Sm := (sAppend 4 (fE (oE (mSortSet (oE (mOp gAdd (oE (mVar 7)) (oE (mOp gMul (oE (mLst (dsCons (fE (oE (mOp gPow (oE (mC (.int 10))) (oE (mC (.int 9)))))) dsNil))) (oE (mCallB gInt (msCons (oE (mOp (bo gEq) (oE (mCall 2 F_law_take (msCons (oE (mVar 0)) (msCons (oE (mC (.int 9))) msNil)))) (oE (mC (.int 0))))) msNil)))))))))))
def Cb1 : Sm := (sSet 11 (mLst dsNil))
def Cb2 : Sm := (sFor (mIt (fE (oE (mOp gIx (oE (mVar 4)) (oE (mVar 9)))))) (.nm 12) (sSeq (sSet 13 (mLst (dsCons (fE (oE (mVar 12))) dsNil)))
    (sSeq (sFor (mIt (fE (oE (mSl gSl (oE (mVar 10)) (mPart (oE (mC (.int 1)))) mNoPart)))) (.tp [(.nm 14), (.nm 15)]) (sSeq (sSet 16 (mLc (mIt (fE (oE (mVar 2)))) (.nm 17) [17] (mBl (mOp (bo gEq) (oE (mSl gSl (oE (mVar 17)) (mPart (oE (mC (.int 1)))) (mPart (oE (mC (.int 3)))))) (oE (mTup (dsCons (fE (oE (mVar 6))) (dsCons (fE (oE (mVar 14))) dsNil)))))) (fE (oE (mOp gIx (oE (mVar 17)) (oE (mC (.int 3))))))))
    (sSeq (sSet 7 (mLst (dsCons (fE (oE (mC (.int 0)))) (dsCons (fE (oE (mC (.int 1)))) (dsCons (fE (oE (mC (.int 2)))) dsNil)))))
    (sSeq (sIf (mBl (mOp (bo gNe) (oE (mVar 16)) (oE (mLst dsNil)))) (sSet 7 (mOp gIx (oE (mVar 4)) (oE (mCall 2 F_law_place (msCons (oE (mVar 1)) (msCons (oE (mOp gIx (oE (mVar 16)) (oE (mCall 2 F_law_take (msCons (oE (mVar 0)) (msCons (oE (mCallB gLen (msCons (oE (mVar 16)) msNil))) msNil)))))) msNil)))))) sNext)
    (sSeq (sSet 18 (mOp gAdd (oE (mLst (dsCons (fE (oE (mC .none))) (dsCons (fE (oE (mVar 15))) (dsCons (fE (oE (mOp M3.gSub (oE (mCall 2 F_law_take (msCons (oE (mVar 0)) (msCons (oE (mC (.int 12))) msNil)))) (oE (mC (.int 3)))))) dsNil))))) (oE (mSl gSl (oE (mOp gAdd (oE (mOp gAdd (oE (mVar 7)) (oE (mVar 7)))) (oE (mVar 7)))) mNoPart (mPart (oE (mC (.int 24))))))))
    (sAppend 13 (fE (oE (mOp gIx (oE (mVar 18)) (oE (mCall 2 F_law_take (msCons (oE (mVar 0)) (msCons (oE (mCallB gLen (msCons (oE (mVar 18)) msNil))) msNil)))))))))))))
    (sAppend 11 (fE (oE (mCallB gTuple (msCons (oE (mVar 13)) msNil))))))))
def Cb3 : Sm := (sAppend 5 (fE (oE (mVar 11))))
def Cc1 : Sm := (sSet 13 (mLst (dsCons (fE (oE (mVar 12))) dsNil)))
def Cc2 : Sm := (sFor (mIt (fE (oE (mSl gSl (oE (mVar 10)) (mPart (oE (mC (.int 1)))) mNoPart)))) (.tp [(.nm 14), (.nm 15)]) (sSeq (sSet 16 (mLc (mIt (fE (oE (mVar 2)))) (.nm 17) [17] (mBl (mOp (bo gEq) (oE (mSl gSl (oE (mVar 17)) (mPart (oE (mC (.int 1)))) (mPart (oE (mC (.int 3)))))) (oE (mTup (dsCons (fE (oE (mVar 6))) (dsCons (fE (oE (mVar 14))) dsNil)))))) (fE (oE (mOp gIx (oE (mVar 17)) (oE (mC (.int 3))))))))
    (sSeq (sSet 7 (mLst (dsCons (fE (oE (mC (.int 0)))) (dsCons (fE (oE (mC (.int 1)))) (dsCons (fE (oE (mC (.int 2)))) dsNil)))))
    (sSeq (sIf (mBl (mOp (bo gNe) (oE (mVar 16)) (oE (mLst dsNil)))) (sSet 7 (mOp gIx (oE (mVar 4)) (oE (mCall 2 F_law_place (msCons (oE (mVar 1)) (msCons (oE (mOp gIx (oE (mVar 16)) (oE (mCall 2 F_law_take (msCons (oE (mVar 0)) (msCons (oE (mCallB gLen (msCons (oE (mVar 16)) msNil))) msNil)))))) msNil)))))) sNext)
    (sSeq (sSet 18 (mOp gAdd (oE (mLst (dsCons (fE (oE (mC .none))) (dsCons (fE (oE (mVar 15))) (dsCons (fE (oE (mOp M3.gSub (oE (mCall 2 F_law_take (msCons (oE (mVar 0)) (msCons (oE (mC (.int 12))) msNil)))) (oE (mC (.int 3)))))) dsNil))))) (oE (mSl gSl (oE (mOp gAdd (oE (mOp gAdd (oE (mVar 7)) (oE (mVar 7)))) (oE (mVar 7)))) mNoPart (mPart (oE (mC (.int 24))))))))
    (sAppend 13 (fE (oE (mOp gIx (oE (mVar 18)) (oE (mCall 2 F_law_take (msCons (oE (mVar 0)) (msCons (oE (mCallB gLen (msCons (oE (mVar 18)) msNil))) msNil)))))))))))))
def Cc3 : Sm := (sAppend 11 (fE (oE (mCallB gTuple (msCons (oE (mVar 13)) msNil)))))
def Cd1 : Sm := (sSet 16 (mLc (mIt (fE (oE (mVar 2)))) (.nm 17) [17] (mBl (mOp (bo gEq) (oE (mSl gSl (oE (mVar 17)) (mPart (oE (mC (.int 1)))) (mPart (oE (mC (.int 3)))))) (oE (mTup (dsCons (fE (oE (mVar 6))) (dsCons (fE (oE (mVar 14))) dsNil)))))) (fE (oE (mOp gIx (oE (mVar 17)) (oE (mC (.int 3))))))))
def Cd2 : Sm := (sSet 7 (mLst (dsCons (fE (oE (mC (.int 0)))) (dsCons (fE (oE (mC (.int 1)))) (dsCons (fE (oE (mC (.int 2)))) dsNil)))))
def Cd3 : Sm := (sIf (mBl (mOp (bo gNe) (oE (mVar 16)) (oE (mLst dsNil)))) (sSet 7 (mOp gIx (oE (mVar 4)) (oE (mCall 2 F_law_place (msCons (oE (mVar 1)) (msCons (oE (mOp gIx (oE (mVar 16)) (oE (mCall 2 F_law_take (msCons (oE (mVar 0)) (msCons (oE (mCallB gLen (msCons (oE (mVar 16)) msNil))) msNil)))))) msNil)))))) sNext)
def Cd4 : Sm := (sSet 18 (mOp gAdd (oE (mLst (dsCons (fE (oE (mC .none))) (dsCons (fE (oE (mVar 15))) (dsCons (fE (oE (mOp M3.gSub (oE (mCall 2 F_law_take (msCons (oE (mVar 0)) (msCons (oE (mC (.int 12))) msNil)))) (oE (mC (.int 3)))))) dsNil))))) (oE (mSl gSl (oE (mOp gAdd (oE (mOp gAdd (oE (mVar 7)) (oE (mVar 7)))) (oE (mVar 7)))) mNoPart (mPart (oE (mC (.int 24))))))))
def Cd5 : Sm := (sAppend 13 (fE (oE (mOp gIx (oE (mVar 18)) (oE (mCall 2 F_law_take (msCons (oE (mVar 0)) (msCons (oE (mCallB gLen (msCons (oE (mVar 18)) msNil))) msNil))))))))
def Ca : Sm := sSeq Ca1 Ca2
def Cb : Sm := sSeq Cb1 (sSeq Cb2 Cb3)
def Cc : Sm := sSeq Cc1 (sSeq Cc2 Cc3)
def Cd : Sm := sSeq Cd1 (sSeq Cd2 (sSeq Cd3 (sSeq Cd4 Cd5)))
theorem Cn2_is : Cn2 = sFor (mIt (fE (oE (mVar 1)))) (.nm 6) Ca := rfl
theorem Cn3_is : Cn3 = sFor (mEnum (dsCons (fE (oE (mVar 1))) dsNil)) (.tp [.nm 9, .tp [.nm 6, .nm 10]]) Cb := rfl
theorem Cb2_is : Cb2 = sFor (mIt (fE (oE (mOp gIx (oE (mVar 4)) (oE (mVar 9)))))) (.nm 12) Cc := rfl
theorem Cc2_is : Cc2 = sFor (mIt (fE (oE (mSl gSl (oE (mVar 10)) (mPart (oE (mC (.int 1)))) mNoPart)))) (.tp [.nm 14, .nm 15]) Cd := rfl
theorem B_law_content_is : B_law_content = sSeq Cn1 (sSeq Cn2 (sSeq Cn3 Cn4)) := rfl
abbrev fY (ys : List TY) : Option SV := some (.fro (.tuple (ys.map tieD)))
def mkD (m : List Int) : D := .list (m.map PyData.int)
/-- marks of one table -/
structure MkOk (m : List Int) : Prop where
  up : m.Pairwise (· < ·)
  l : m.length ≤ 10
  b : ∀ i ∈ m, -1000000000 ≤ i ∧ i ≤ 1000000000
theorem intsZ_map : ∀ l : List Int, intsZ (l.map PyData.int) = some l
  | [] => rfl
  | i :: l => by
    rw [List.map_cons]
    show (intsZ (l.map PyData.int)).map _ = _
    rw [intsZ_map l]; rfl
theorem insI_len (k : Int) : ∀ l : List Int, (insI k l).length ≤ l.length + 1
  | [] => by simp [insI]
  | j :: l => by
    unfold insI
    have := insI_len k l
    split
    · simp
    · split
      · simp
      · simp; omega
theorem srtI_len : ∀ l : List Int, (srtI l).length ≤ l.length
  | [] => Nat.le_refl _
  | k :: l => by
    have h1 := insI_len k (srtI l)
    have h2 := srtI_len l
    show (insI k (srtI l)).length ≤ _
    rw [List.length_cons]
    omega
section
variable (ts : List M5.TT) (ys : List TY)
theorem ca1 {T : Int} {L : List D} (h : Bx T L) (hT : T < 700000) (x4 x5 x6 x7 x8 x9 x10 x11 x12 x13 x14 x15 x16 x17 x18 : Option SV) : ∃ (L' : List D) (S : List Int), Bx (T + 10) L' ∧ S.length ≤ 9 ∧ (∀ i ∈ S, -3 ≤ i ∧ i ≤ 8) ∧ Ca1 [sB L, fT ts, fY ys, fI 9, x4, x5, x6, x7, x8, x9, x10, x11, x12, x13, x14, x15, x16, x17, x18] = .nx [sB L', fT ts, fY ys, fI 9, x4, x5, x6, some (.own (.lst (S.map PyData.int))), x8, x9, x10, x11, x12, x13, x14, x15, x16, x17, x18] := by
  obtain ⟨n, L1, n0, n1, h1, e1⟩ := takeB (m := 10) h (by omega) (by omega) (by omega)
  have hr : (rngD 0 n.toNat).length = n.toNat := by unfold rngD; rw [List.length_map, List.length_range]
  have hz : n.toNat ≤ sizeLine := by rw [sizeLine_eq]; omega
  obtain ⟨out, ε', e2, ⟨L2, qs, h2, rfl, hq, rfl⟩, hl⟩ := lc_inv (p := .nm 8) (vs := [8]) (m := fE (oE (mOp M3.gSub (oE (mCall 2 F_law_take (msCons (oE (mVar 0)) (msCons (oE (mC (.int 12))) msNil)))) (oE (mC (.int 3))))))
    (fun acc ε => ∃ L2 qs, Bx (T + 1 + (acc.length : Int)) L2 ∧ acc = qs.map PyData.int ∧ (∀ i ∈ qs, -3 ≤ i ∧ i ≤ 8) ∧ ε = [sB L2, fT ts, fY ys, fI 9, x4, x5, x6, x7, none, x9, x10, x11, x12, x13, x14, x15, x16, x17, x18])
    (N := n.toNat) hz (ds := rngD 0 n.toNat) (acc := []) (ε := [sB L1, fT ts, fY ys, fI 9, x4, x5, x6, x7, none, x9, x10, x11, x12, x13, x14, x15, x16, x17, x18])
    ⟨L1, [], by simpa using h1, rfl, (fun _ h => by cases h), rfl⟩ (fun d hd acc ε hI hacc => by
      obtain ⟨L2, qs, h2, rfl, hx, rfl⟩ := hI
      obtain ⟨q, L3, q0, q1, h3, e3⟩ := takeB (m := 12) h2 (by omega) (by omega) (by omega)
      refine ⟨_, _, _, by simp; rfl, by simp [e3, gSub_i]; exact ⟨rfl, rfl⟩, L3, qs ++ [q - 3], h3.mono (by simp; omega), by simp, ?_, by simp⟩
      intro c hc
      rcases List.mem_append.mp hc with hc | hc
      · exact hx c hc
      · rw [List.mem_singleton.mp hc]
        omega) (by rw [hr]; simp)
  have hql : qs.length = n.toNat := by rw [List.length_map, hr] at hl; simpa using hl
  have hrn : -4611686018427387904 ≤ n ∧ n < 4611686018427387904 := by omega
  rw [List.length_map] at h2
  have gp : gAdd (.int 9) (.int 1) = some (.val (.int 10)) := rfl
  exact ⟨L2, qs, h2.mono (by omega), by omega, hq, by simp [Ca1, gp, e1, hrn, e2]⟩
theorem ca2 {T : Int} {L : List D} (h : Bx T L) (hT : T < 700000) (MK : List (List Int)) (hM : MK.length ≤ 20) (S : List Int) (hS : S.length ≤ 9) (hb : ∀ i ∈ S, -3 ≤ i ∧ i ≤ 8) (x5 x6 x8 x9 x10 x11 x12 x13 x14 x15 x16 x17 x18 : Option SV) : ∃ (L' : List D) (m : List Int), Bx (T + 1) L' ∧ MkOk m ∧ Ca2 [sB L, fT ts, fY ys, fI 9, some (.own (.lst (MK.map mkD))), x5, x6, some (.own (.lst (S.map PyData.int))), x8, x9, x10, x11, x12, x13, x14, x15, x16, x17, x18] = .nx [sB L', fT ts, fY ys, fI 9, some (.own (.lst ((MK ++ [m]).map mkD))), x5, x6, some (.own (.lst (S.map PyData.int))), x8, x9, x10, x11, x12, x13, x14, x15, x16, x17, x18] := by
  obtain ⟨q, L1, q0, q1, h1, e1⟩ := takeB (m := 9) h (by omega) (by omega) (by omega)
  obtain ⟨B, hB, hB2, gm⟩ : ∃ B : List Int, B.length ≤ 1 ∧ (∀ i ∈ B, i = 1000000000) ∧ gMul (.list [.int 1000000000]) (.int (if q = 0 then 1 else 0)) = some (.newl (B.map PyData.int)) := by
    have hc : ∀ j : Int, 0 ≤ j ∧ j ≤ 1 → gMul (.list [.int 1000000000]) (.int j) = some (.newl (List.replicate j.toNat [PyData.int 1000000000]).flatten) := fun j hj => by
      show (if _ then _ else _) = _
      rw [if_pos ⟨by omega, by omega, by rw [sizeLine_eq]; simp; omega⟩]
    by_cases z : q = 0
    · rw [if_pos z]
      exact ⟨[1000000000], by simp, by simp, by rw [hc 1 (by omega)]; rfl⟩
    · rw [if_neg z]
      exact ⟨[], by simp, by simp, by rw [hc 0 (by omega)]; rfl⟩
  have ga : gAdd (.list (S.map PyData.int)) (.list (B.map PyData.int)) = some (.newl ((S ++ B).map PyData.int)) := by
    rw [gAdd_ll (by rw [sizeLine_eq]; simp; omega), List.map_append]
  have hi := intsZ_map (S ++ B)
  have hl : (S ++ B).length < 64 := by rw [List.length_append]; omega
  have hsz : (MK.map mkD).length < sizeLine := by rw [List.length_map, sizeLine_eq]; omega
  have so := srtI_ok (S ++ B)
  have sl := srtI_len (S ++ B)
  rw [List.length_append] at sl
  have h1s : (1 : Nat) ≤ sizeLine := sz_of (by omega)
  refine ⟨L1, srtI (S ++ B), h1, ⟨so.1, by omega, fun i hi => ?_⟩, ?_⟩
  · rcases List.mem_append.mp ((so.2 i).mp hi) with hi | hi
    · have := hb i hi; omega
    · rw [hB2 i hi]; omega
  · have em : (MK ++ [srtI (S ++ B)]).map mkD = MK.map mkD ++ [.list ((srtI (S ++ B)).map PyData.int)] := by rw [List.map_append]; rfl
    rw [em]
    generalize S ++ B = W at *
    generalize MK.map mkD = F at *
    generalize W.map PyData.int = SB at *
    generalize S.map PyData.int = S' at *
    generalize B.map PyData.int = B' at *
    by_cases z : q = 0
    · rw [if_pos z] at gm
      simp [Ca2, e1, gPow, gEq_int, z, gInt, h1s, gm, ga, hi, hl, hsz]
    · rw [if_neg z] at gm
      simp [Ca2, e1, gPow, gEq_int, z, gInt, h1s, gm, ga, hi, hl, hsz]
end
end GC

namespace GC
open PySem PySem.Spec L2 M3 M4 M5
open PyProof.Rows hiding St
theorem sl13 (y : TY) : gSl (tieD y) (some 1) (some 3) = some (.newt [dL y.t.1, dL y.c.1]) := by
  unfold tieD gSl
  dsimp only
  have e : HT.sIx 7 0 (some 1) ≠ 0 := by decide
  rw [if_neg (fun z => e z.1)]
  rfl
theorem sh_L2 {a b : List Nat} (ha : Gn a) (hb : Gn b) : SeqAt.shaped (.tuple [dL a, dL b]) = true := sh_tup (fun x hx => by
  simp only [List.mem_cons, List.not_mem_nil, or_false] at hx
  rcases hx with rfl | rfl
  · exact ha.shd
  · exact hb.shd) fun x hx => by
  simp only [List.mem_cons, List.not_mem_nil, or_false] at hx
  rcases hx with rfl | rfl <;> simp [dL, PyData.depth]
theorem gEq_pair {a b c d : List Nat} (ha : Gn a) (hb : Gn b) (hc : Gn c) (hd : Gn d) : gEq (.tuple [dL a, dL b]) (.tuple [dL c, dL d]) = some (decide (a = c) && decide (b = d)) := by
  unfold gEq
  rw [if_pos ⟨sh_L2 ha hb, sh_L2 hc hd⟩]
  simp [PyData.eqv, PyData.eqvAll, eqv_L]
theorem gNe_L {ls : List (List Nat)} (h : ∀ l ∈ ls, Gn l) : gNe (.list (ls.map dL)) (.list []) = some (!ls.isEmpty) := by
  have hn : Nms (ls.map dL) := fun x hx => by
    obtain ⟨l, hl, rfl⟩ := List.mem_map.mp hx
    exact ⟨sL l, rfl, (h l hl).shd⟩
  unfold gNe
  rw [if_pos ⟨hn.sh, sh_nil⟩, eqv_nil]
  cases ls <;> rfl
theorem gIx_ln {ds : List D} {k : Nat} {d : D} (h : ds[k]? = some d) : gIx (.list ds) (.int (k : Int)) = some (.val d) := by
  have hl := lt_get h
  show (L2.atI ds (k : Int)).map _ = _
  unfold L2.atI
  rw [ixN_lt (by omega) (by omega)]
  show ((ds[(k : Int).toNat]?).map _) = _
  rw [Int.toNat_natCast, h]
  rfl
theorem gIx_lm {ds : List D} {k : Int} (h0 : 0 ≤ k) (h1 : k < ds.length) : ∃ d ∈ ds, gIx (.list ds) (.int k) = some (.val d) := by
  have hk : k.toNat < ds.length := by omega
  have g := gIx_ln (ds := ds) (k := k.toNat) (List.getElem?_eq_getElem hk)
  rw [show ((k.toNat : Nat) : Int) = k by omega] at g
  exact ⟨_, List.getElem_mem hk, g⟩
section
variable {ts : List M5.TT} (hT : GoodT ts) (hl : ts.length ≤ 10) {ys : List TY} (hg : ∀ y ∈ ys, GoodY ts y) (hy : ys.length ≤ 12) {MK : List (List Int)} (hM : MK.length = ts.length) (hM2 : ∀ m ∈ MK, MkOk m)
include hT hl hg hy hM hM2
theorem cd_ok {T : Int} {L : List D} (h : Bx T L) (hB : T < 700000) (t : M5.TT) (ht : Gn t.1) (c : TC) (hc : Gn c.1) (hw : Wd c.2) (R : List D) (hR : R.length ≤ 100) (x5 x7 x8 x9 x10 x11 x12 x16 x17 x18 : Option SV) :
    ∃ (L' : List D) (w : D) (y7 y16 y18 : Option SV), Bx (T + 3) L' ∧ Wd w ∧ Cd [sB L, fT ts, fY ys, fI 9, some (.own (.lst (MK.map mkD))), x5, some (.fro (dL t.1)), x7, x8, x9, x10, x11, x12, some (.own (.lst R)), some (.fro (dL c.1)), some (.fro c.2), x16, x17, x18] = .nx [sB L', fT ts, fY ys, fI 9, some (.own (.lst (MK.map mkD))), x5, some (.fro (dL t.1)), y7, x8, x9, x10, x11, x12, some (.own (.lst (R ++ [w]))), some (.fro (dL c.1)), some (.fro c.2), y16, x17, y18] := by
  obtain ⟨ON, hON⟩ : ∃ ON : List (List Nat), ON = (ys.filter fun y => decide (y.t.1 = t.1) && decide (y.c.1 = c.1)).map fun y => y.o.1 := ⟨_, rfl⟩
  have on_ok : ∀ l ∈ ON, ∃ o ∈ ts, l = o.1 := fun l hl => by
    rw [hON] at hl
    obtain ⟨y, hy, rfl⟩ := List.mem_map.mp hl
    exact ⟨y.o, (hg y (List.mem_filter.mp hy).1).o, rfl⟩
  have on_g : ∀ l ∈ ON, Gn l := fun l hl => by
    obtain ⟨o, ho, rfl⟩ := on_ok l hl
    exact (hT.g o ho).1
  have on_l : ON.length ≤ 12 := by rw [hON, List.length_map]; exact Nat.le_trans (List.length_filter_le _ _) hy
  have h2s := M4.two_le
  have h3s : (3 : Nat) ≤ sizeLine := sz_of (by omega)
  have h0s : (0 : Nat) ≤ sizeLine := sz_of (by omega)
  have e := lc_filtM (p := .nm 17) (vs := [17]) (c := mBl (mOp (bo gEq) (oE (mSl gSl (oE (mVar 17)) (mPart (oE (mC (.int 1)))) (mPart (oE (mC (.int 3)))))) (oE (mTup (dsCons (fE (oE (mVar 6))) (dsCons (fE (oE (mVar 14))) dsNil)))))) (m := fE (oE (mOp gIx (oE (mVar 17)) (oE (mC (.int 3))))))
    (g := tieD) (f := fun y => dL y.o.1) (q := fun y => decide (y.t.1 = t.1) && decide (y.c.1 = c.1)) (ε := [sB L, fT ts, fY ys, fI 9, some (.own (.lst (MK.map mkD))), x5, some (.fro (dL t.1)), x7, x8, x9, x10, x11, x12, some (.own (.lst R)), some (.fro (dL c.1)), some (.fro c.2), x16, none, x18]) (xs := ys) (acc := [])
    (fun y hy => by
      have gy := hg y hy
      have gt := (hT.g _ gy.t).1
      have gcc := ((hT.g _ gy.t).2.g _ gy.c).1
      have ge := gEq_pair gt gcc ht hc
      have s1 := sl13 y
      have go : gIx (tieD y) (.int 3) = some (.val (dL y.o.1)) := by simp [tieD, gIx, atI, ixN]
      exact ⟨[sB L, fT ts, fY ys, fI 9, some (.own (.lst (MK.map mkD))), x5, some (.fro (dL t.1)), x7, x8, x9, x10, x11, x12, some (.own (.lst R)), some (.fro (dL c.1)), some (.fro c.2), x16, some (.fro (tieD y)), x18], [sB L, fT ts, fY ys, fI 9, some (.own (.lst (MK.map mkD))), x5, some (.fro (dL t.1)), x7, x8, x9, x10, x11, x12, some (.own (.lst R)), some (.fro (dL c.1)), some (.fro c.2), x16, some (.fro (tieD y)), x18], by simp, by simp [s1, ge, h2s, outR], by simp, fun _ => ⟨[sB L, fT ts, fY ys, fI 9, some (.own (.lst (MK.map mkD))), x5, some (.fro (dL t.1)), x7, x8, x9, x10, x11, x12, some (.own (.lst R)), some (.fro (dL c.1)), some (.fro c.2), x16, some (.fro (tieD y)), x18], by simp [go], by simp⟩⟩)
    (by simpa using sz_of (by omega))
  have em : ((ys.filter fun y => decide (y.t.1 = t.1) && decide (y.c.1 = c.1)).map fun y => dL y.o.1) = ON.map dL := by rw [hON, List.map_map]; rfl
  rw [List.nil_append, em] at e
  have f1 : Cd1 [sB L, fT ts, fY ys, fI 9, some (.own (.lst (MK.map mkD))), x5, some (.fro (dL t.1)), x7, x8, x9, x10, x11, x12, some (.own (.lst R)), some (.fro (dL c.1)), some (.fro c.2), x16, x17, x18] = .nx [sB L, fT ts, fY ys, fI 9, some (.own (.lst (MK.map mkD))), x5, some (.fro (dL t.1)), x7, x8, x9, x10, x11, x12, some (.own (.lst R)), some (.fro (dL c.1)), some (.fro c.2), some (.own (.lst (ON.map dL))), x17, x18] := by
    generalize ON.map dL = Z at *
    simp only [Cd1, x_set, x_lc]
    simp [e]
  have f2 : Cd2 [sB L, fT ts, fY ys, fI 9, some (.own (.lst (MK.map mkD))), x5, some (.fro (dL t.1)), x7, x8, x9, x10, x11, x12, some (.own (.lst R)), some (.fro (dL c.1)), some (.fro c.2), some (.own (.lst (ON.map dL))), x17, x18] = .nx [sB L, fT ts, fY ys, fI 9, some (.own (.lst (MK.map mkD))), x5, some (.fro (dL t.1)), some (.own (.lst [.int 0, .int 1, .int 2])), x8, x9, x10, x11, x12, some (.own (.lst R)), some (.fro (dL c.1)), some (.fro c.2), some (.own (.lst (ON.map dL))), x17, x18] := by
    generalize ON.map dL = Z at *
    simp [Cd2, h3s]
  have f3 : ∃ (L1 : List D) (x7' : Option SV) (SM : List Int), Bx (T + 1) L1 ∧ SM.length ≤ 10 ∧ (∀ i ∈ SM, -1000000000 ≤ i ∧ i ≤ 1000000000) ∧ KL x7' (SM.map PyData.int) ∧ Cd3 [sB L, fT ts, fY ys, fI 9, some (.own (.lst (MK.map mkD))), x5, some (.fro (dL t.1)), some (.own (.lst [.int 0, .int 1, .int 2])), x8, x9, x10, x11, x12, some (.own (.lst R)), some (.fro (dL c.1)), some (.fro c.2), some (.own (.lst (ON.map dL))), x17, x18] = .nx [sB L1, fT ts, fY ys, fI 9, some (.own (.lst (MK.map mkD))), x5, some (.fro (dL t.1)), x7', x8, x9, x10, x11, x12, some (.own (.lst R)), some (.fro (dL c.1)), some (.fro c.2), some (.own (.lst (ON.map dL))), x17, x18] := by
    have gn := gNe_L on_g
    by_cases hz : ON = []
    · refine ⟨L, _, [0, 1, 2], h.mono (by omega), by simp, by simp, .inl rfl, ?_⟩
      rw [hz] at gn
      simp only [List.map_nil, List.isEmpty_nil, Bool.not_true] at gn
      simp [Cd3, hz, gn, h0s]
    · have hpos := List.length_pos_iff.mpr hz
      obtain ⟨j, L1, j0, j1, h1, e1⟩ := takeB (m := (ON.length : Int)) h (by omega) (by omega) (by omega)
      have hj : j.toNat < ON.length := by omega
      have gj := gIx_ln (ds := ON.map dL) (k := j.toNat) (d := dL ON[j.toNat]) (by rw [List.getElem?_map, List.getElem?_eq_getElem hj]; rfl)
      rw [show ((j.toNat : Nat) : Int) = j by omega] at gj
      obtain ⟨o, ho, eo⟩ := on_ok _ (List.getElem_mem hj)
      rw [eo] at gj
      obtain ⟨k, hk⟩ := List.getElem?_of_mem ho
      have ep := e_place hT (by omega) hk
      have hkM : k < MK.length := by rw [hM]; exact lt_get hk
      have gM := gIx_ln (ds := MK.map mkD) (k := k) (d := mkD MK[k]) (by rw [List.getElem?_map, List.getElem?_eq_getElem hkM]; rfl)
      have mo := hM2 _ (List.getElem_mem hkM)
      have hne : (!ON.isEmpty) = true := by
        cases ON with
        | nil => exact absurd rfl hz
        | cons _ _ => rfl
      rw [hne] at gn
      have hln : ((ON.map dL).length : Int) = ON.length := by rw [List.length_map]
      refine ⟨L1, _, MK[k], h1, mo.l, mo.b, .inr rfl, ?_⟩
      rw [← hln] at e1
      generalize ON.map dL = Z at *
      generalize MK.map mkD = F at *
      simp [Cd3, gn, gLen, e1, gj, ep, gM, mkD, h0s]
  obtain ⟨L1, x7', SM, h1, sl, sb, hK, f3⟩ := f3
  obtain ⟨q, L2, q0, q1, h2, e2⟩ := takeB (m := 12) h1 (by omega) (by omega) (by omega)
  obtain ⟨MO, hMO⟩ : ∃ MO : List D, MO = [.none, c.2, .int (q - 3)] ++ ((SM.map PyData.int ++ SM.map PyData.int) ++ SM.map PyData.int).take 24 := ⟨_, rfl⟩
  have mo_w : ∀ d ∈ MO, Wd d := fun d hd => by
    have hi : ∀ d ∈ SM.map PyData.int, Wd d := fun d hd => by
      obtain ⟨i, hi, rfl⟩ := List.mem_map.mp hd
      exact .inr ⟨i, rfl, (sb i hi).1, (sb i hi).2⟩
    rw [hMO] at hd
    rcases List.mem_append.mp hd with hd | hd
    · simp only [List.mem_cons, List.not_mem_nil, or_false] at hd
      rcases hd with rfl | rfl | rfl
      · exact .inl rfl
      · exact hw
      · exact .inr ⟨_, rfl, by omega, by omega⟩
    · rcases List.mem_append.mp (List.mem_of_mem_take hd) with hd | hd
      · rcases List.mem_append.mp hd with hd | hd <;> exact hi d hd
      · exact hi d hd
  have mo_l : 3 ≤ MO.length ∧ MO.length ≤ 27 := by rw [hMO, List.length_append, List.length_take]; simp; omega
  have f4 : Cd4 [sB L1, fT ts, fY ys, fI 9, some (.own (.lst (MK.map mkD))), x5, some (.fro (dL t.1)), x7', x8, x9, x10, x11, x12, some (.own (.lst R)), some (.fro (dL c.1)), some (.fro c.2), some (.own (.lst (ON.map dL))), x17, x18] = .nx [sB L2, fT ts, fY ys, fI 9, some (.own (.lst (MK.map mkD))), x5, some (.fro (dL t.1)), x7', x8, x9, x10, x11, x12, some (.own (.lst R)), some (.fro (dL c.1)), some (.fro c.2), some (.own (.lst (ON.map dL))), x17, some (.own (.lst MO))] := by
    have a1 : gAdd (.list (SM.map PyData.int)) (.list (SM.map PyData.int)) = some (.newl (SM.map PyData.int ++ SM.map PyData.int)) := gAdd_ll (by rw [sizeLine_eq]; simp; omega)
    have a2 : gAdd (.list (SM.map PyData.int ++ SM.map PyData.int)) (.list (SM.map PyData.int)) = some (.newl ((SM.map PyData.int ++ SM.map PyData.int) ++ SM.map PyData.int)) := gAdd_ll (by rw [sizeLine_eq]; simp; omega)
    have a3 : gSl (.list ((SM.map PyData.int ++ SM.map PyData.int) ++ SM.map PyData.int)) none (some 24) = some (.newl (((SM.map PyData.int ++ SM.map PyData.int) ++ SM.map PyData.int).take 24)) := by
      show some (Out.newl (M3.cutD _ none (some 24))) = _
      rw [cut_to _ (by omega)]; rfl
    have a4 : gAdd (.list [.none, c.2, .int (q - 3)]) (.list (((SM.map PyData.int ++ SM.map PyData.int) ++ SM.map PyData.int).take 24)) = some (.newl MO) := by
      rw [hMO]
      exact gAdd_ll (by rw [sizeLine_eq, List.length_take]; simp; omega)
    generalize (SM.map PyData.int ++ SM.map PyData.int) ++ SM.map PyData.int = S3 at *
    generalize SM.map PyData.int ++ SM.map PyData.int = S2 at *
    generalize SM.map PyData.int = S1 at *
    generalize S3.take 24 = S4 at *
    generalize ON.map dL = Z at *
    rcases hK with rfl | rfl
    · simp [Cd4, e2, gSub_i, h3s, a1, a2, a3, a4]
    · simp [Cd4, e2, gSub_i, h3s, a1, a2, a3, a4]
  obtain ⟨r, L3, r0, r1, h3, e3⟩ := takeB (m := (MO.length : Int)) h2 (by omega) (by omega) (by omega)
  obtain ⟨w, hw2, gw⟩ := gIx_lm r0 r1
  have hsz : R.length < sizeLine := by rw [sizeLine_eq]; omega
  refine ⟨L3, w, x7', some (.own (.lst (ON.map dL))), some (.own (.lst MO)), h3.mono (by omega), mo_w w hw2, ?_⟩
  have f5 : Cd5 [sB L2, fT ts, fY ys, fI 9, some (.own (.lst (MK.map mkD))), x5, some (.fro (dL t.1)), x7', x8, x9, x10, x11, x12, some (.own (.lst R)), some (.fro (dL c.1)), some (.fro c.2), some (.own (.lst (ON.map dL))), x17, some (.own (.lst MO))] = .nx [sB L3, fT ts, fY ys, fI 9, some (.own (.lst (MK.map mkD))), x5, some (.fro (dL t.1)), x7', x8, x9, x10, x11, x12, some (.own (.lst (R ++ [w]))), some (.fro (dL c.1)), some (.fro c.2), some (.own (.lst (ON.map dL))), x17, some (.own (.lst MO))] := by
    generalize ON.map dL = Z at *
    simp [Cd5, gLen, e3, gw, hsz]
  unfold Cd
  rw [x_seq, f1, x_q1, x_seq, f2, x_q1, x_seq, f3, x_q1, x_seq, f4, x_q1, f5]
end
end GC

namespace GC
open PySem PySem.Spec L2 M3 M4 M5
open PyProof.Rows hiding St
abbrev RX := Int × List D
def rowC (r : RX) : D := .tuple (.int r.1 :: r.2)
def rowsC (rs : List RX) : D := .list (rs.map rowC)
structure RowOk (cols : List TC) (r : RX) : Prop where
  l : r.2.length + 1 = cols.length
  w : ∀ d ∈ r.2, Wd d
  b : -1000000000 ≤ r.1 ∧ r.1 ≤ 1000000000
structure RowsOk (cols : List TC) (rs : List RX) : Prop where
  r : ∀ r ∈ rs, RowOk cols r
  up : (rs.map (·.1)).Pairwise (· < ·)
  l : rs.length ≤ 10
theorem out_slT {ds : List D} {lo hi : Option Int} {ε : En} : outR (gSl (.tuple ds) lo hi) ε = .ok (.fro (.tuple (M3.cutD ds lo hi))) ε := by
  unfold gSl
  dsimp only
  split
  · rename_i h
    have e : M3.cutD ds lo hi = ds := by
      unfold M3.cutD
      rw [h.1, h.2, List.drop_zero, Nat.sub_zero, List.take_length]
    rw [e]; rfl
  · rfl
section
variable {ts : List M5.TT} (hT : GoodT ts) (hl : ts.length ≤ 10) {ys : List TY} (hg : ∀ y ∈ ys, GoodY ts y) (hy : ys.length ≤ 12) {MK : List (List Int)} (hM : MK.length = ts.length) (hM2 : ∀ m ∈ MK, MkOk m)
include hT hl hg hy hM hM2
theorem cc_ok {T : Int} {L : List D} (h : Bx T L) (hB : T < 600000) (t : M5.TT) (ht : Gn t.1) (hc : GoodC t.2) (mk : Int) (hmk : -1000000000 ≤ mk ∧ mk ≤ 1000000000) (RS : List RX) (hR : RS.length ≤ 100) (x5 x7 x8 x9 x13 x14 x15 x16 x17 x18 : Option SV) :
    ∃ (L' : List D) (r : RX) (y7 y13 y14 y15 y16 y18 : Option SV), Bx (T + 15) L' ∧ r.1 = mk ∧ RowOk t.2 r ∧ Cc [sB L, fT ts, fY ys, fI 9, some (.own (.lst (MK.map mkD))), x5, some (.fro (dL t.1)), x7, x8, x9, some (.fro (.tuple (t.2.map colD))), some (.own (.lst (RS.map rowC))), fI mk, x13, x14, x15, x16, x17, x18] = .nx [sB L', fT ts, fY ys, fI 9, some (.own (.lst (MK.map mkD))), x5, some (.fro (dL t.1)), y7, x8, x9, some (.fro (.tuple (t.2.map colD))), some (.own (.lst ((RS ++ [r]).map rowC))), fI mk, y13, y14, y15, y16, x17, y18] := by
  have h1s : (1 : Nat) ≤ sizeLine := sz_of (by omega)
  have hcl := hc.l
  have hcp := List.length_pos_iff.mpr hc.ne
  have f1 : Cc1 [sB L, fT ts, fY ys, fI 9, some (.own (.lst (MK.map mkD))), x5, some (.fro (dL t.1)), x7, x8, x9, some (.fro (.tuple (t.2.map colD))), some (.own (.lst (RS.map rowC))), fI mk, x13, x14, x15, x16, x17, x18] = .nx [sB L, fT ts, fY ys, fI 9, some (.own (.lst (MK.map mkD))), x5, some (.fro (dL t.1)), x7, x8, x9, some (.fro (.tuple (t.2.map colD))), some (.own (.lst (RS.map rowC))), fI mk, some (.own (.lst [.int mk])), x14, x15, x16, x17, x18] := by
    generalize RS.map rowC = F at *
    simp [Cc1, h1s]
  have hdl : (t.2.drop 1).length ≤ 4 := by rw [List.length_drop]; omega
  obtain ⟨ε', e2, L2, ws, z7, z14, z15, z16, z18, h2, wl, ww, rfl⟩ := loop_nx (p := .tp [.nm 14, .nm 15]) (body := Cd) (fun i ε => ∃ (L' : List D) (ws : List D) (x7 x14 x15 x16 x18 : Option SV), Bx (T + 3 * (i : Int)) L' ∧ ws.length = i ∧ (∀ d ∈ ws, Wd d) ∧ ε = [sB L', fT ts, fY ys, fI 9, some (.own (.lst (MK.map mkD))), x5, some (.fro (dL t.1)), x7, x8, x9, some (.fro (.tuple (t.2.map colD))), some (.own (.lst (RS.map rowC))), fI mk, some (.own (.lst (.int mk :: ws))), x14, x15, x16, x17, x18])
    (ds := (t.2.drop 1).map colD) (k := 0) (ε := [sB L, fT ts, fY ys, fI 9, some (.own (.lst (MK.map mkD))), x5, some (.fro (dL t.1)), x7, x8, x9, some (.fro (.tuple (t.2.map colD))), some (.own (.lst (RS.map rowC))), fI mk, some (.own (.lst [.int mk])), x14, x15, x16, x17, x18]) ⟨L, [], x7, x14, x15, x16, x18, by simpa using h, rfl, (fun _ h => by cases h), rfl⟩ (fun i d ε hi hI => by
      obtain ⟨L', ws, x7, x14, x15, x16, x18, h2, wl, ww, rfl⟩ := hI
      obtain ⟨c, hci, rfl⟩ := get_map hi
      rw [Nat.zero_add] at *
      have hil := lt_get hci
      have cm : c ∈ t.2 := List.mem_of_mem_drop (List.mem_of_getElem? hci)
      obtain ⟨L3, w, y7, y16, y18, h3, hw, e⟩ := cd_ok hT hl hg hy hM hM2 h2 (by omega) t ht c (hc.g c cm).1 (hc.g c cm).2 (.int mk :: ws) (by rw [List.length_cons]; omega) x5 x7 x8 x9 (some (.fro (.tuple (t.2.map colD)))) (some (.own (.lst (RS.map rowC)))) (fI mk) x16 x17 x18
      exact ⟨[sB L', fT ts, fY ys, fI 9, some (.own (.lst (MK.map mkD))), x5, some (.fro (dL t.1)), x7, x8, x9, some (.fro (.tuple (t.2.map colD))), some (.own (.lst (RS.map rowC))), fI mk, some (.own (.lst (.int mk :: ws))), some (.fro (dL c.1)), some (.fro c.2), x16, x17, x18], _, by simp [colD], e, L3, ws ++ [w], y7, _, _, y16, y18, h3.mono (by omega), by simp [wl], (fun d hd => by
        rcases List.mem_append.mp hd with hd | hd
        · exact ww d hd
        · rw [List.mem_singleton.mp hd]; exact hw), rfl⟩)
  rw [List.length_map, Nat.zero_add] at *
  have f2 : Cc2 [sB L, fT ts, fY ys, fI 9, some (.own (.lst (MK.map mkD))), x5, some (.fro (dL t.1)), x7, x8, x9, some (.fro (.tuple (t.2.map colD))), some (.own (.lst (RS.map rowC))), fI mk, some (.own (.lst [.int mk])), x14, x15, x16, x17, x18] = .nx [sB L2, fT ts, fY ys, fI 9, some (.own (.lst (MK.map mkD))), x5, some (.fro (dL t.1)), z7, x8, x9, some (.fro (.tuple (t.2.map colD))), some (.own (.lst (RS.map rowC))), fI mk, some (.own (.lst (.int mk :: ws))), z14, z15, z16, x17, z18] := by
    have ecut : M3.cutD (t.2.map colD) (some 1) none = (t.2.drop 1).map colD := by rw [cut_from _ (by omega), List.map_drop]; rfl
    generalize (t.2.drop 1).map colD = Q at *
    simp only [Cc2_is, x_for, x_it, x_fE, x_oE, x_sl]
    simp [out_slT, ecut, e2]
  have hsz : RS.length < sizeLine := by rw [sizeLine_eq]; omega
  have hsz2 : ws.length + 1 ≤ sizeLine := by rw [wl]; exact sz_of (by omega)
  refine ⟨L2, (mk, ws), z7, some (.own (.lst (.int mk :: ws))), z14, z15, z16, z18, h2.mono (by omega), rfl, ⟨by rw [wl, List.length_drop]; omega, ww, hmk⟩, ?_⟩
  have f3 : Cc3 [sB L2, fT ts, fY ys, fI 9, some (.own (.lst (MK.map mkD))), x5, some (.fro (dL t.1)), z7, x8, x9, some (.fro (.tuple (t.2.map colD))), some (.own (.lst (RS.map rowC))), fI mk, some (.own (.lst (.int mk :: ws))), z14, z15, z16, x17, z18] = .nx [sB L2, fT ts, fY ys, fI 9, some (.own (.lst (MK.map mkD))), x5, some (.fro (dL t.1)), z7, x8, x9, some (.fro (.tuple (t.2.map colD))), some (.own (.lst ((RS ++ [(mk, ws)]).map rowC))), fI mk, some (.own (.lst (.int mk :: ws))), z14, z15, z16, x17, z18] := by
    have hlen : (RS.map rowC).length = RS.length := List.length_map ..
    have em : (RS ++ [(mk, ws)]).map rowC = RS.map rowC ++ [.tuple (.int mk :: ws)] := by rw [List.map_append]; rfl
    rw [em]
    generalize RS.map rowC = F at *
    simp [Cc3, gTuple, outR, hsz2, hlen, hsz]
  unfold Cc
  rw [x_seq, f1, x_q1, x_seq, f2, x_q1, f3]
theorem cb_ok {T : Int} {L : List D} (h : Bx T L) (hB : T < 500000) (k : Nat) (t : M5.TT) (hk : ts[k]? = some t) (CT : List D) (hCT : CT.length ≤ 100) (x7 x8 x11 x12 x13 x14 x15 x16 x17 x18 : Option SV) :
    ∃ (L' : List D) (rs : List RX) (y7 y11 y12 y13 y14 y15 y16 y18 : Option SV), Bx (T + 160) L' ∧ RowsOk t.2 rs ∧ Cb [sB L, fT ts, fY ys, fI 9, some (.own (.lst (MK.map mkD))), some (.own (.lst CT)), some (.fro (dL t.1)), x7, x8, fI k, some (.fro (.tuple (t.2.map colD))), x11, x12, x13, x14, x15, x16, x17, x18] = .nx [sB L', fT ts, fY ys, fI 9, some (.own (.lst (MK.map mkD))), some (.own (.lst (CT ++ [rowsC rs]))), some (.fro (dL t.1)), y7, x8, fI k, some (.fro (.tuple (t.2.map colD))), y11, y12, y13, y14, y15, y16, x17, y18] := by
  have gt := hT.g t (List.mem_of_getElem? hk)
  have hkM : k < MK.length := by rw [hM]; exact lt_get hk
  have mo := hM2 _ (List.getElem_mem hkM)
  have gM := gIx_ln (ds := MK.map mkD) (k := k) (d := mkD MK[k]) (by rw [List.getElem?_map, List.getElem?_eq_getElem hkM]; rfl)
  generalize hm : MK[k] = m at *
  have ml := mo.l
  have h0s : (0 : Nat) ≤ sizeLine := sz_of (by omega)
  have f1 : Cb1 [sB L, fT ts, fY ys, fI 9, some (.own (.lst (MK.map mkD))), some (.own (.lst CT)), some (.fro (dL t.1)), x7, x8, fI k, some (.fro (.tuple (t.2.map colD))), x11, x12, x13, x14, x15, x16, x17, x18] = .nx [sB L, fT ts, fY ys, fI 9, some (.own (.lst (MK.map mkD))), some (.own (.lst CT)), some (.fro (dL t.1)), x7, x8, fI k, some (.fro (.tuple (t.2.map colD))), some (.own (.lst [])), x12, x13, x14, x15, x16, x17, x18] := by
    generalize MK.map mkD = F at *
    simp [Cb1, h0s]
  obtain ⟨ε', e2, L2, RS, z7, z12, z13, z14, z15, z16, z18, h2, r1, r2, rfl⟩ := loop_nx (p := .nm 12) (body := Cc) (fun i ε => ∃ (L' : List D) (RS : List RX) (x7 x12 x13 x14 x15 x16 x18 : Option SV), Bx (T + 15 * (i : Int)) L' ∧ RS.map (·.1) = m.take i ∧ (∀ r ∈ RS, RowOk t.2 r) ∧ ε = [sB L', fT ts, fY ys, fI 9, some (.own (.lst (MK.map mkD))), some (.own (.lst CT)), some (.fro (dL t.1)), x7, x8, fI k, some (.fro (.tuple (t.2.map colD))), some (.own (.lst (RS.map rowC))), x12, x13, x14, x15, x16, x17, x18])
    (ds := m.map PyData.int) (k := 0) (ε := [sB L, fT ts, fY ys, fI 9, some (.own (.lst (MK.map mkD))), some (.own (.lst CT)), some (.fro (dL t.1)), x7, x8, fI k, some (.fro (.tuple (t.2.map colD))), some (.own (.lst [])), x12, x13, x14, x15, x16, x17, x18]) ⟨L, [], x7, x12, x13, x14, x15, x16, x18, by simpa using h, by simp, (fun _ h => by cases h), rfl⟩ (fun i d ε hi hI => by
      obtain ⟨L', RS, x7, x12, x13, x14, x15, x16, x18, h2, r1, r2, rfl⟩ := hI
      obtain ⟨mk, hmk, rfl⟩ := get_map hi
      rw [Nat.zero_add] at *
      have hil := lt_get hmk
      have hr : RS.length = i := by
        have := congrArg List.length r1
        rw [List.length_map, List.length_take] at this
        omega
      obtain ⟨L3, r, y7, y13, y14, y15, y16, y18, h3, er, ro, e⟩ := cc_ok hT hl hg hy hM hM2 h2 (by omega) t gt.1 gt.2 mk (mo.b mk (List.mem_of_getElem? hmk)) RS (by omega) (some (.own (.lst CT))) x7 x8 (fI k) x13 x14 x15 x16 x17 x18
      exact ⟨[sB L', fT ts, fY ys, fI 9, some (.own (.lst (MK.map mkD))), some (.own (.lst CT)), some (.fro (dL t.1)), x7, x8, fI k, some (.fro (.tuple (t.2.map colD))), some (.own (.lst (RS.map rowC))), fI mk, x13, x14, x15, x16, x17, x18], _, by simp, e, L3, RS ++ [r], y7, _, y13, y14, y15, y16, y18, h3.mono (by omega), by rw [List.map_append, r1, take_get hmk, List.map_singleton, er], (fun x hx => by
        rcases List.mem_append.mp hx with hx | hx
        · exact r2 x hx
        · rw [List.mem_singleton.mp hx]; exact ro), rfl⟩)
  rw [List.length_map, Nat.zero_add] at *
  rw [List.take_length] at r1
  have hrl : RS.length = m.length := by rw [← r1, List.length_map]
  have f2 : Cb2 [sB L, fT ts, fY ys, fI 9, some (.own (.lst (MK.map mkD))), some (.own (.lst CT)), some (.fro (dL t.1)), x7, x8, fI k, some (.fro (.tuple (t.2.map colD))), some (.own (.lst [])), x12, x13, x14, x15, x16, x17, x18] = .nx [sB L2, fT ts, fY ys, fI 9, some (.own (.lst (MK.map mkD))), some (.own (.lst CT)), some (.fro (dL t.1)), z7, x8, fI k, some (.fro (.tuple (t.2.map colD))), some (.own (.lst (RS.map rowC))), z12, z13, z14, z15, z16, x17, z18] := by
    have ei : itemsD (mkD m) = some (m.map PyData.int) := rfl
    generalize RS.map rowC = G at *
    generalize MK.map mkD = F at *
    generalize m.map PyData.int = Q at *
    simp [Cb2_is, gM, ei, e2]
  have hsz : CT.length < sizeLine := by rw [sizeLine_eq]; omega
  have f3 : Cb3 [sB L2, fT ts, fY ys, fI 9, some (.own (.lst (MK.map mkD))), some (.own (.lst CT)), some (.fro (dL t.1)), z7, x8, fI k, some (.fro (.tuple (t.2.map colD))), some (.own (.lst (RS.map rowC))), z12, z13, z14, z15, z16, x17, z18] = .nx [sB L2, fT ts, fY ys, fI 9, some (.own (.lst (MK.map mkD))), some (.own (.lst (CT ++ [rowsC RS]))), some (.fro (dL t.1)), z7, x8, fI k, some (.fro (.tuple (t.2.map colD))), some (.fro (.list (RS.map rowC))), z12, z13, z14, z15, z16, x17, z18] := by
    have er : rowsC RS = .list (RS.map rowC) := rfl
    rw [er]
    generalize RS.map rowC = G at *
    simp [Cb3, hsz]
  refine ⟨L2, RS, z7, some (.fro (.list (RS.map rowC))), z12, z13, z14, z15, z16, z18, h2.mono (by omega), ⟨r2, by rw [r1]; exact mo.up, by omega⟩, ?_⟩
  unfold Cb
  rw [x_seq, f1, x_q1, x_seq, f2, x_q1, f3]
end
end GC

namespace GC
open PySem PySem.Spec L2 M3 M4 M5
open PyProof.Rows hiding St
/-- a content for tables -/
structure CtOk (ts : List M5.TT) (ct : List (List RX)) : Prop where
  l : ct.length = ts.length
  g : ∀ (k : Nat) t rs, ts[k]? = some t → ct[k]? = some rs → RowsOk t.2 rs
theorem contentC {ts : List M5.TT} (hT : GoodT ts) (hl : ts.length ≤ 10) {ys : List TY} (hg : ∀ y ∈ ys, GoodY ts y) (hy : ys.length ≤ 12) {T : Int} {L : List D} (h : Bx T L) (hB : T < 400000) :
    ∃ (L' : List D) (ct : List (List RX)), Bx (T + 2000) L' ∧ CtOk ts ct ∧ F_law_content [sB L, fT ts, fY ys, fI 9] = .ok (.new (.lst (ct.map rowsC))) [sB L', fT ts, fY ys, fI 9] := by
  have h0s : (0 : Nat) ≤ sizeLine := sz_of (by omega)
  have f1 : Cn1 [sB L, fT ts, fY ys, fI 9, none, none, none, none, none, none, none, none, none, none, none, none, none, none, none] = .nx [sB L, fT ts, fY ys, fI 9, some (.own (.lst [])), some (.own (.lst [])), none, none, none, none, none, none, none, none, none, none, none, none, none] := by simp [Cn1, h0s]
  obtain ⟨ε', e2, L2, MK, y6, y7, y8, h2, ml, mo, rfl⟩ := loop_nx (p := .nm 6) (body := Ca) (fun i ε => ∃ (L' : List D) (MK : List (List Int)) (x6 x7 x8 : Option SV), Bx (T + 11 * (i : Int)) L' ∧ MK.length = i ∧ (∀ m ∈ MK, MkOk m) ∧ ε = [sB L', fT ts, fY ys, fI 9, some (.own (.lst (MK.map mkD))), some (.own (.lst [])), x6, x7, x8, none, none, none, none, none, none, none, none, none, none])
    (ds := ts.map tblD) (k := 0) (ε := [sB L, fT ts, fY ys, fI 9, some (.own (.lst [])), some (.own (.lst [])), none, none, none, none, none, none, none, none, none, none, none, none, none]) ⟨L, [], none, none, none, by simpa using h, rfl, (fun _ h => by cases h), rfl⟩ (fun i d ε hi hI => by
      obtain ⟨L', MK, x6, x7, x8, h2, ml, mo, rfl⟩ := hI
      obtain ⟨t, hti, rfl⟩ := get_map hi
      rw [Nat.zero_add] at *
      have hil := lt_get hti
      obtain ⟨L3, S, h3, sl, sb, e3⟩ := ca1 ts ys h2 (by omega) (some (.own (.lst (MK.map mkD)))) (some (.own (.lst []))) (some (.fro (tblD t))) x7 x8 none none none none none none none none none none
      obtain ⟨L4, m, h4, hm, e4⟩ := ca2 ts ys h3 (by omega) MK (by omega) S sl sb (some (.own (.lst []))) (some (.fro (tblD t))) x8 none none none none none none none none none none
      exact ⟨[sB L', fT ts, fY ys, fI 9, some (.own (.lst (MK.map mkD))), some (.own (.lst [])), some (.fro (tblD t)), x7, x8, none, none, none, none, none, none, none, none, none, none], _, by simp, by unfold Ca; rw [x_seq, e3, x_q1, e4], L4, MK ++ [m], _, _, _, h4.mono (by omega), by simp [ml], (fun z hz => by
        rcases List.mem_append.mp hz with hz | hz
        · exact mo z hz
        · rw [List.mem_singleton.mp hz]; exact hm), rfl⟩)
  rw [List.length_map, Nat.zero_add] at *
  have f2 : Cn2 [sB L, fT ts, fY ys, fI 9, some (.own (.lst [])), some (.own (.lst [])), none, none, none, none, none, none, none, none, none, none, none, none, none] = .nx [sB L2, fT ts, fY ys, fI 9, some (.own (.lst (MK.map mkD))), some (.own (.lst [])), y6, y7, y8, none, none, none, none, none, none, none, none, none, none] := by
    generalize MK.map mkD = F at *
    simp [Cn2_is, e2]
  obtain ⟨ε', e3, L3, ct, z6, z7, z8, z9, z10, z11, z12, z13, z14, z15, z16, z17, z18, h3, cl, cg, rfl⟩ := loop_nx (p := .tp [.nm 9, .tp [.nm 6, .nm 10]]) (body := Cb) (fun i ε => ∃ (L' : List D) (ct : List (List RX)) (x6 x7 x8 x9 x10 x11 x12 x13 x14 x15 x16 x17 x18 : Option SV), Bx (T + 110 + 160 * (i : Int)) L' ∧ ct.length = i ∧ (∀ (k : Nat) t rs, ts[k]? = some t → ct[k]? = some rs → RowsOk t.2 rs) ∧ ε = [sB L', fT ts, fY ys, fI 9, some (.own (.lst (MK.map mkD))), some (.own (.lst (ct.map rowsC))), x6, x7, x8, x9, x10, x11, x12, x13, x14, x15, x16, x17, x18])
    (ds := enumD 0 (ts.map tblD)) (k := 0) (ε := [sB L2, fT ts, fY ys, fI 9, some (.own (.lst (MK.map mkD))), some (.own (.lst [])), y6, y7, y8, none, none, none, none, none, none, none, none, none, none]) ⟨L2, [], y6, y7, y8, none, none, none, none, none, none, none, none, none, none, h2.mono (by omega), rfl, (fun k t rs _ e => by cases e), rfl⟩ (fun i d ε hi hI => by
      obtain ⟨L', ct, x6, x7, x8, x9, x10, x11, x12, x13, x14, x15, x16, x17, x18, h3, cl, cg, rfl⟩ := hI
      rw [enumD_get] at hi
      cases et : ts[i]? with
      | none => rw [List.getElem?_map, et] at hi; cases hi
      | some t =>
        rw [List.getElem?_map, et] at hi
        cases hi
        rw [Nat.zero_add] at *
        have hil := lt_get et
        obtain ⟨L4, rs, w7, w11, w12, w13, w14, w15, w16, w18, h4, ro, e⟩ := cb_ok hT hl hg hy ml mo h3 (by omega) i t et (ct.map rowsC) (by rw [List.length_map]; omega) x7 x8 x11 x12 x13 x14 x15 x16 x17 x18
        refine ⟨[sB L', fT ts, fY ys, fI 9, some (.own (.lst (MK.map mkD))), some (.own (.lst (ct.map rowsC))), some (.fro (dL t.1)), x7, x8, fI i, some (.fro (.tuple (t.2.map colD))), x11, x12, x13, x14, x15, x16, x17, x18], _, by simp [tblD], e, L4, ct ++ [rs], _, w7, x8, _, _, w11, w12, w13, w14, w15, w16, x17, w18, h4.mono (by omega), by simp [cl], fun k t' rs' h1 h2 => ?_, by rw [List.map_append]; rfl⟩
        rcases Nat.lt_trichotomy k ct.length with hlt | heq | hgt
        · rw [List.getElem?_append_left hlt] at h2
          exact cg k t' rs' h1 h2
        · rw [heq, cl, et] at h1
          cases h1
          rw [heq, List.getElem?_append_right (Nat.le_refl _), Nat.sub_self] at h2
          cases h2
          exact ro
        · rw [List.getElem?_eq_none (by rw [List.length_append, List.length_singleton]; omega)] at h2
          cases h2)
  rw [enumD_len, List.length_map, Nat.zero_add] at *
  have f3 : Cn3 [sB L2, fT ts, fY ys, fI 9, some (.own (.lst (MK.map mkD))), some (.own (.lst [])), y6, y7, y8, none, none, none, none, none, none, none, none, none, none] = .nx [sB L3, fT ts, fY ys, fI 9, some (.own (.lst (MK.map mkD))), some (.own (.lst (ct.map rowsC))), z6, z7, z8, z9, z10, z11, z12, z13, z14, z15, z16, z17, z18] := by
    generalize MK.map mkD = F at *
    generalize ct.map rowsC = G at *
    simp [Cn3_is, e3]
  have f4 : Cn4 [sB L3, fT ts, fY ys, fI 9, some (.own (.lst (MK.map mkD))), some (.own (.lst (ct.map rowsC))), z6, z7, z8, z9, z10, z11, z12, z13, z14, z15, z16, z17, z18] = .rt (.at_ 5) [sB L3, fT ts, fY ys, fI 9, some (.own (.lst (MK.map mkD))), some (.own (.lst (ct.map rowsC))), z6, z7, z8, z9, z10, z11, z12, z13, z14, z15, z16, z17, z18] := by
    generalize MK.map mkD = F at *
    generalize ct.map rowsC = G at *
    simp [Cn4]
  refine ⟨L3, ct, h3.mono (by omega), ⟨cl, cg⟩, ?_⟩
  unfold F_law_content
  exact fn_at (i := 5) (E := [sB L, fT ts, fY ys, fI 9, none, none, none, none, none, none, none, none, none, none, none, none, none, none, none]) rfl (by simp) rfl (by rw [B_law_content_is, x_seq, f1, x_q1, x_seq, f2, x_q1, x_seq, f3, x_q1, f4]) (by simp) rfl rfl
end GC

namespace GC
open PySem PySem.Spec L2 M3 M4 M5
open PyProof.Rows hiding St
/-! ### cells compared -/
def wEq : D → D → Bool
  | .none, .none => true
  | .int i, .int j => i == j
  | _, _ => false
/-! ### contents as handed in -/
def rowL (r : RX) : D := .list (.int r.1 :: r.2)
structure HdOk (ts : List M5.TT) (HD : D) (rg : RX → D) (ct : List (List RX)) : Prop where
  ix : ∀ (k : Nat) rs, ct[k]? = some rs → ∃ R, gIx HD (.int (k : Int)) = some (.val R) ∧ itemsD R = some (rs.map rg)
  cell : ∀ (r : RX) (j : Nat) d, (PyData.int r.1 :: r.2)[j]? = some d → gIx (rg r) (.int (j : Int)) = some (.val d)
  tp : ∀ (r : RX) (ε : En), r.2.length ≤ 100 → outR (gTuple [rg r]) ε = .ok (.fro (rowC r)) ε
theorem hd_cell {rg : RX → D} (h : rg = rowC ∨ rg = rowL) (r : RX) (j : Nat) (d : D) (e : (PyData.int r.1 :: r.2)[j]? = some d) : gIx (rg r) (.int (j : Int)) = some (.val d) := by
  rcases h with rfl | rfl
  · exact gIx_t e
  · exact gIx_ln e
theorem hd_tp {rg : RX → D} (h : rg = rowC ∨ rg = rowL) (r : RX) (ε : En) (hl : r.2.length ≤ 100) : outR (gTuple [rg r]) ε = .ok (.fro (rowC r)) ε := by
  rcases h with rfl | rfl
  · simp [gTuple, rowC, outR]
  · have : r.2.length + 1 ≤ sizeLine := sz_of (by omega)
    simp [gTuple, rowC, rowL, outR, this]
def H0 (ct : List (List RX)) : D := .list (ct.map rowsC)
def H1 (ct : List (List RX)) : D := .list (ct.map fun rs => .list (rs.map rowL))
def H2 (ct : List (List RX)) : D := .tuple (ct.map fun rs => .tuple (rs.map rowC))
theorem hd0 (ts : List M5.TT) (ct : List (List RX)) : HdOk ts (H0 ct) rowC ct :=
  ⟨fun k rs h => ⟨rowsC rs, gIx_ln (by rw [List.getElem?_map, h]; rfl), rfl⟩, hd_cell (.inl rfl), hd_tp (.inl rfl)⟩
theorem hd1 (ts : List M5.TT) (ct : List (List RX)) : HdOk ts (H1 ct) rowL ct :=
  ⟨fun k rs h => ⟨_, gIx_ln (by rw [List.getElem?_map, h]; rfl), rfl⟩, hd_cell (.inr rfl), hd_tp (.inr rfl)⟩
theorem hd2 (ts : List M5.TT) (ct : List (List RX)) : HdOk ts (H2 ct) rowC ct :=
  ⟨fun k rs h => ⟨_, gIx_t (by rw [List.getElem?_map, h]; rfl), rfl⟩, hd_cell (.inl rfl), hd_tp (.inl rfl)⟩
section
variable {ts : List M5.TT} (hT : GoodT ts) {ct : List (List RX)} (hC : CtOk ts ct) {HD : D} {rg : RX → D} (hd : HdOk ts HD rg ct)
include hT hC hd
theorem e_rows {k : Nat} {t : M5.TT} {rs : List RX} (ht : ts[k]? = some t) (hr : ct[k]? = some rs) : ∃ R, itemsD R = some (rs.map rg) ∧ F_rows_of [fT ts, some (.fro HD), fS (sL t.1)] = .ok (.fro R) [fT ts, some (.fro HD), fS (sL t.1)] := by
  obtain ⟨R, g, hi⟩ := hd.ix k rs hr
  exact ⟨R, hi, by simp [F_rows_of, B_rows_of, e_tp hT ht, g]⟩
end
end GC

namespace GC
open PySem PySem.Spec L2 M3 M4 M5
open PyProof.Rows hiding St
def plD (ts : List M5.TT) (ys : List TY) : D := .tuple [.tuple (ts.map tblD), .tuple (ys.map tieD), .tuple []]
theorem plD_pl (ts : List M5.TT) (ys : List TY) : Pl (plD ts ys) (.tuple (ts.map tblD)) (.tuple (ys.map tieD)) tieD ys where
  g0 := by simp [plD, gIx, atI, ixN]
  g1 := by simp [plD, gIx, atI, ixN]
  it := rfl
  tp := fun y _ ε => by simp [gTuple, tieD, outR]
  n := fun y _ => by simp [tieD, gIx, atI, ixN]
  o := fun y _ => by simp [tieD, gIx, atI, ixN]
def cellJ (r : RX) (j : Nat) : D := ((PyData.int r.1 :: r.2)[j]?).getD .none
theorem cell_ok {cols : List TC} {r : RX} (h : RowOk cols r) {j : Nat} (hj : j < cols.length) : (PyData.int r.1 :: r.2)[j]? = some (cellJ r j) ∧ Wd (cellJ r j) := by
  have hl := h.l
  have hj2 : j < (PyData.int r.1 :: r.2).length := by rw [List.length_cons]; omega
  have e : (PyData.int r.1 :: r.2)[j]? = some ((PyData.int r.1 :: r.2)[j]) := List.getElem?_eq_getElem hj2
  have ec : cellJ r j = (PyData.int r.1 :: r.2)[j] := by unfold cellJ; rw [e]; rfl
  refine ⟨by rw [e, ec], ?_⟩
  rw [ec]
  rcases List.mem_cons.mp (List.getElem_mem hj2) with z | z
  · rw [z]; exact .inr ⟨_, rfl, h.b.1, h.b.2⟩
  · exact h.w _ z
/-- where a tie stands -/
structure At (ts : List M5.TT) (ct : List (List RX)) (y : TY) (k j k2 : Nat) (rs rs2 : List RX) : Prop where
  t : ts[k]? = some y.t
  c : y.t.2[j]? = some y.c
  o : ts[k2]? = some y.o
  r : ct[k]? = some rs
  r2 : ct[k2]? = some rs2
theorem at_of {ts : List M5.TT} {ct : List (List RX)} (hC : CtOk ts ct) {y : TY} (gy : GoodY ts y) : ∃ k j k2 rs rs2, At ts ct y k j k2 rs rs2 := by
  obtain ⟨k, hk⟩ := List.getElem?_of_mem gy.t
  obtain ⟨j, hj⟩ := List.getElem?_of_mem gy.c
  obtain ⟨k2, hk2⟩ := List.getElem?_of_mem gy.o
  have h1 : k < ct.length := by rw [hC.l]; exact lt_get hk
  have h2 : k2 < ct.length := by rw [hC.l]; exact lt_get hk2
  exact ⟨k, j, k2, _, _, hk, hj, hk2, List.getElem?_eq_getElem h1, List.getElem?_eq_getElem h2⟩
abbrev AF := TY → Nat × Nat × Nat × List RX × List RX
def AllAt (ts : List M5.TT) (ct : List (List RX)) (ys : List TY) (f : AF) : Prop := ∀ y ∈ ys, At ts ct y (f y).1 (f y).2.1 (f y).2.2.1 (f y).2.2.2.1 (f y).2.2.2.2
theorem at_all {ts : List M5.TT} {ct : List (List RX)} (hC : CtOk ts ct) {ys : List TY} (hg : ∀ y ∈ ys, GoodY ts y) : ∃ f : AF, AllAt ts ct ys f := by
  have h : ∀ y : TY, ∃ p : Nat × Nat × Nat × List RX × List RX, y ∈ ys → At ts ct y p.1 p.2.1 p.2.2.1 p.2.2.2.1 p.2.2.2.2 := fun y => by
    by_cases hy : y ∈ ys
    · obtain ⟨k, j, k2, rs, rs2, A⟩ := at_of hC (hg y hy)
      exact ⟨(k, j, k2, rs, rs2), fun _ => A⟩
    · exact ⟨(0, 0, 0, [], []), fun z => absurd z hy⟩
  obtain ⟨f, hf⟩ := Classical.axiomOfChoice h
  exact ⟨f, fun y hy => hf y hy⟩
theorem tb_D {t : M5.TT} (h : Gn t.1 ∧ GoodC t.2) : Tb (tblD t) := ⟨dL t.1, t.2.map colD, rfl, h.1.tx, by rw [List.length_map]; have := h.2.l; omega, fun c hc => by
  obtain ⟨x, hx, rfl⟩ := List.mem_map.mp hc
  exact col_cl (h.2.g x hx)⟩
theorem T_fi {ts : List M5.TT} (hT : GoodT ts) (hl : ts.length ≤ 7) : Fi MM 3731 4 (.tuple (ts.map tblD)) := ts_fi (fun x hx => by
  obtain ⟨t, ht, rfl⟩ := List.mem_map.mp hx
  exact tb_D (hT.g t ht)) (by rw [List.length_map]; exact hl)
theorem ws_asc {z : Str} (h : z ∈ WS ∨ z ∈ WN) : asc z = true ∧ z.length ≤ 8 := by
  have h1 : ∀ z ∈ WS ++ WN, asc z = true ∧ z.length ≤ 8 := by decide +kernel
  exact h1 z (List.mem_append.mpr h)
theorem tie_fi {ts : List M5.TT} (hT : GoodT ts) {y : TY} (h : GoodY ts y) : Fi MM 63 1 (tieD y) := by
  have f : ∀ l, Gn l → Fi MM 8 0 (dL l) := fun l hl => fi_str hl.sh.a hl.sh.l
  have s : ∀ z, (z ∈ WS ∨ z ∈ WN) → Fi MM 8 0 (.str z) := fun z hz => fi_str (ws_asc hz).1 (ws_asc hz).2
  have m : ∀ x ∈ [dL y.n, dL y.t.1, dL y.c.1, dL y.o.1, .str y.g, .str y.u, .str y.w], Fi MM 8 0 x := by
    intro x hx
    simp only [List.mem_cons, List.not_mem_nil, or_false] at hx
    rcases hx with rfl | rfl | rfl | rfl | rfl | rfl | rfl
    · exact f _ h.n
    · exact f _ (hT.g _ h.t).1
    · exact f _ ((hT.g _ h.t).2.g _ h.c).1
    · exact f _ (hT.g _ h.o).1
    · exact s _ (.inl h.g.1)
    · exact s _ (.inl h.u.1)
    · exact s _ (.inr h.w)
  exact (fl_all m).tup
theorem ties_fi {ts : List M5.TT} (hT : GoodT ts) {ys : List TY} (h : ∀ y ∈ ys, GoodY ts y) (hl : ys.length ≤ 11) : Fi MM 704 4 (.tuple (ys.map tieD)) :=
  ((fl_all (xs := ys.map tieD) fun x hx => by
    obtain ⟨y, hy, rfl⟩ := List.mem_map.mp hx
    exact tie_fi hT (h y hy)).tup).mono (Int.le_refl _) (by rw [List.length_map]; omega) (by omega)
theorem nil_fi : Fi MM 0 4 (.tuple []) := ((fl_all (N := MM) (W := 0) (k := 0) (xs := []) fun x hx => by cases hx).tup).mono (Int.le_refl _) (by simp) (by omega)

theorem plan_fi {ts : List M5.TT} (hT : GoodT ts) (hl : ts.length ≤ 7) {ys : List TY} (h : ∀ y ∈ ys, GoodY ts y) (hy : ys.length ≤ 11) : Fi MM 5000 5 (plD ts ys) :=
  (((FL.one (T_fi hT hl)).app ((FL.one (ties_fi hT h hy)).app (FL.one nil_fi))).tup).mono (Int.le_refl _) (by omega) (by omega)
theorem row_fl {cols : List TC} (hc : cols.length ≤ 5) {r : RX} (h : RowOk cols r) : FL MM 315 0 (PyData.int r.1 :: r.2) := by
  have hl := h.l
  have a : ∀ x ∈ (PyData.int r.1 :: r.2), Fi MM 62 0 x := fun x hx => by
    rcases List.mem_cons.mp hx with rfl | hx
    · exact wd_fi (.inr ⟨_, rfl, h.b.1, h.b.2⟩)
    · exact wd_fi (h.w x hx)
  exact (fl_all a).mono (fun _ z => z) (by rw [List.length_cons]; have : (r.2.length + 1) * 63 ≤ 5 * 63 := Nat.mul_le_mul_right _ (by omega); omega) (Nat.le_refl _)
theorem rows_fl {g : RX → D} (hg : g = rowC ∨ g = rowL) {cols : List TC} (hc : cols.length ≤ 5) {rs : List RX} (h : RowsOk cols rs) : FL MM 3160 1 (rs.map g) := by
  have a : ∀ x ∈ rs.map g, Fi MM 315 1 x := fun x hx => by
    obtain ⟨r, hr, rfl⟩ := List.mem_map.mp hx
    rcases hg with rfl | rfl
    · exact (row_fl hc (h.r r hr)).tup
    · exact (row_fl hc (h.r r hr)).lst
  exact (fl_all a).mono (fun _ z => z) (by rw [List.length_map]; have : rs.length * 316 ≤ 10 * 316 := Nat.mul_le_mul_right _ h.l; omega) (Nat.le_refl _)
theorem ct_fl {ts : List M5.TT} (hT : GoodT ts) (hl : ts.length ≤ 6) {ct : List (List RX)} (hC : CtOk ts ct) {g : List RX → D} (hg : ∀ t ∈ ts, ∀ rs, RowsOk t.2 rs → Fi MM 3160 2 (g rs)) : FL MM 18966 2 (ct.map g) := by
  have a : ∀ x ∈ ct.map g, Fi MM 3160 2 x := fun x hx => by
    obtain ⟨rs, hr, rfl⟩ := List.mem_map.mp hx
    obtain ⟨k, hk⟩ := List.getElem?_of_mem hr
    have hkt : k < ts.length := by rw [← hC.l]; exact lt_get hk
    exact hg ts[k] (List.getElem_mem hkt) rs (hC.g k _ rs (List.getElem?_eq_getElem hkt) hk)
  exact (fl_all a).mono (fun _ z => z) (by rw [List.length_map, hC.l]; have : ts.length * 3161 ≤ 6 * 3161 := Nat.mul_le_mul_right _ hl; omega) (Nat.le_refl _)
/-- a content as it may be handed in -/
def Handed (ct : List (List RX)) (HD : D) : Prop := HD = H0 ct ∨ HD = H1 ct ∨ HD = H2 ct
theorem handed_hd {ts : List M5.TT} {ct : List (List RX)} {HD : D} (h : Handed ct HD) : ∃ rg, HdOk ts HD rg ct := by
  rcases h with rfl | rfl | rfl
  · exact ⟨_, hd0 ts ct⟩
  · exact ⟨_, hd1 ts ct⟩
  · exact ⟨_, hd2 ts ct⟩
theorem handed_fi {ts : List M5.TT} (hT : GoodT ts) (hl : ts.length ≤ 6) {ct : List (List RX)} (hC : CtOk ts ct) {HD : D} (h : Handed ct HD) : Fi MM 18966 3 HD := by
  rcases h with rfl | rfl | rfl
  · exact (ct_fl hT hl hC (g := rowsC) fun t ht rs hr => (rows_fl (.inl rfl) (hT.g t ht).2.l hr).lst).lst
  · exact (ct_fl hT hl hC (g := fun rs => .list (rs.map rowL)) fun t ht rs hr => (rows_fl (.inr rfl) (hT.g t ht).2.l hr).lst).lst
  · exact (ct_fl hT hl hC (g := fun rs => .tuple (rs.map rowC)) fun t ht rs hr => (rows_fl (.inl rfl) (hT.g t ht).2.l hr).tup).tup
theorem two_okd {ts : List M5.TT} (hT : GoodT ts) (hl : ts.length ≤ 6) {ys : List TY} (h : ∀ y ∈ ys, GoodY ts y) (hy : ys.length ≤ 11) {ct : List (List RX)} (hC : CtOk ts ct) {HD : D} (hd : Handed ct HD) : Okd (.list [plD ts ys, HD]) :=
  (((FL.one ((plan_fi hT (by omega) h hy))).app (FL.one ((handed_fi hT hl hC hd).mono (Int.le_refl _) (Nat.le_refl _) (by omega)))).lst).okd (by decide) (by omega) (by omega)
theorem bls_rep : ∀ n : Nat, blsD (List.replicate n (PyData.bool true)) = some (List.replicate n true)
  | 0 => rfl
  | n + 1 => by
    have := bls_rep n
    rw [List.replicate_succ, List.replicate_succ]
    simp [blsD, this]
end GC

namespace GC
open PySem PySem.Spec L2 M3 M4 M5
open PyProof.Rows hiding St
/-! ### what the module's names are -/
def topS (i : Nat) : Stmt := PySem.Challenge.pw_tiedtables_k12_what_is_loose.main.body.getD i (.Pass ⟨0, 0, 0, 0⟩)
structure Mo (K : PySem.W.Frag) (w : World) (mg : Str → Option Value) : Prop where
  b_abs : mg "abs" = none
  b_all : mg "all" = none
  b_bool : mg "bool" = none
  b_enumerate : mg "enumerate" = none
  b_int : mg "int" = none
  b_isinstance : mg "isinstance" = none
  b_len : mg "len" = none
  b_list : mg "list" = none
  b_max : mg "max" = none
  b_min : mg "min" = none
  b_range : mg "range" = none
  b_repr : mg "repr" = none
  b_set : mg "set" = none
  b_sorted : mg "sorted" = none
  b_str : mg "str" = none
  b_tuple : mg "tuple" = none
  b_zip : mg "zip" = none
  g_COLUMN : ∃ u, mg "COLUMN" = some u ∧ RelV (.int 2) u
  g_OTHER : ∃ u, mg "OTHER" = some u ∧ RelV (.int 3) u
  g_TABLE : ∃ u, mg "TABLE" = some u ∧ RelV (.int 1) u
  g_TIE : ∃ u, mg "TIE" = some u ∧ RelV (.int 0) u
  g_WHEN : ∃ u, mg "WHEN" = some u ∧ RelV (.int 6) u

/-! ### table_place -/
abbrev st_table_place : Stmt := topS 3
abbrev N_table_place : List Str := ["tables", "table", "place", "name", "columns"]
theorem sc_table_place : FnScope N_table_place ["tables", "table"] (defScope st_table_place) := ⟨rfl, rfl, rfl, by decide +kernel, rfl, by decide +kernel, by decide +kernel⟩
theorem ok_table_place {P : Program} {w : World} {K : PySem.W.Frag} {mg : Str → Option Value} {base : Heap} {k : Nat} {fa : Addr} {fd : FuncData} (m : Mo K w mg) (D : Dfn K "table_place" st_table_place ["tables", "table"] [] fa fd)  (r_NoSuch : Rse P w K mg base (L2.CX P w) "NoSuch" ["what", "name"]) (hk2 : 2 ≤ k) : FnG P w K mg base (L2.CX P w) (k + 1) fa fd ["tables", "table"] (spM K 2 F_table_place) :=
  dfn_ok (N := N_table_place) (own := [0, 1]) (body := B_table_place) D sc_table_place fun cdv A outer s H vs E hr hg => by
  have tk : Takes (cxOf (L2.CX P w) P w K mg base N_table_place "table_place" (defScope st_table_place) fa cdv A outer s H E) (fun c d _ H' => E c d H') := tk_cx
  have px := passX tk
  have q : MSs (cxOf (L2.CX P w) P w K mg base N_table_place "table_place" (defScope st_table_place) fa cdv A outer s H E) ⟨K, [0, 1], vs, fun c d _ H' => E c d H'⟩ (defBody st_table_place) _ (B_table_place) := (mss_cons (ms_for [2, 3, 4] (passes_of rfl) (mi_enum m.b_enumerate (mds_cons ((me_var 0)).frz mds_nil)) (mg_tp (mgs_cons (mg_nm 2 sc_table_place.nd) (mgs_cons (mg_tp (mgs_cons (mg_nm 3 sc_table_place.nd) (mgs_cons (mg_nm 4 sc_table_place.nd) mgs_nil))) mgs_nil))) (mss_one (ms_if (mt_cmp (g := gEq) (op_eqK rfl hr) ops_eq ((me_var 3)).opd ((me_var 1)).opd) (mss_one (ms_ret (me_var 2))) mss_nil)))
    (mss_one (ms_raise r_NoSuch (hr.mono hk2) tk (mds_cons (me_str).frz (mds_cons ((me_var 1)).frz mds_nil)))))
  exact ⟨_, q.ps, q.sn⟩

/-! ### columns_of -/
abbrev st_columns_of : Stmt := topS 4
abbrev N_columns_of : List Str := ["tables", "table"]
theorem sc_columns_of : FnScope N_columns_of ["tables", "table"] (defScope st_columns_of) := ⟨rfl, rfl, rfl, by decide +kernel, rfl, by decide +kernel, by decide +kernel⟩
theorem ok_columns_of {P : Program} {w : World} {K : PySem.W.Frag} {mg : Str → Option Value} {base : Heap} {k : Nat} {fa : Addr} {fd : FuncData} (m : Mo K w mg) (D : Dfn K "columns_of" st_columns_of ["tables", "table"] [] fa fd) (c_table_place : Cal P w K mg base (L2.CX P w) k "table_place" 2 [] F_table_place) : FnG P w K mg base (L2.CX P w) (k + 1) fa fd ["tables", "table"] (spM K 2 F_columns_of) :=
  dfn_ok (N := N_columns_of) (own := [0, 1]) (body := B_columns_of) D sc_columns_of fun cdv A outer s H vs E hr hg => by
  have tk : Takes (cxOf (L2.CX P w) P w K mg base N_columns_of "columns_of" (defScope st_columns_of) fa cdv A outer s H E) (fun c d _ H' => E c d H') := tk_cx
  have px := passX tk
  have q : MSs (cxOf (L2.CX P w) P w K mg base N_columns_of "columns_of" (defScope st_columns_of) fa cdv A outer s H E) ⟨K, [0, 1], vs, fun c d _ H' => E c d H'⟩ (defBody st_columns_of) _ (B_columns_of) := (mss_one (ms_ret (me_ix (op_ixK rfl) ops_ix ((me_ix (op_ixK rfl) ops_ix ((me_var 0)).opd ((me_call c_table_place hr hg px (mas_cons ((me_var 0)).opd (mas_cons ((me_var 1)).opd mas_nil)))).opd)).opd (me_int).opd)))
  exact ⟨_, q.ps, q.sn⟩

/-! ### column_place -/
abbrev st_column_place : Stmt := topS 5
abbrev N_column_place : List Str := ["tables", "table", "column", "place", "name", "fallback"]
theorem sc_column_place : FnScope N_column_place ["tables", "table", "column"] (defScope st_column_place) := ⟨rfl, rfl, rfl, by decide +kernel, rfl, by decide +kernel, by decide +kernel⟩
theorem ok_column_place {P : Program} {w : World} {K : PySem.W.Frag} {mg : Str → Option Value} {base : Heap} {k : Nat} {fa : Addr} {fd : FuncData} (m : Mo K w mg) (D : Dfn K "column_place" st_column_place ["tables", "table", "column"] [] fa fd) (c_columns_of : Cal P w K mg base (L2.CX P w) k "columns_of" 2 [] F_columns_of) (r_NoSuch : Rse P w K mg base (L2.CX P w) "NoSuch" ["what", "name"]) (hk2 : 2 ≤ k) : FnG P w K mg base (L2.CX P w) (k + 1) fa fd ["tables", "table", "column"] (spM K 3 F_column_place) :=
  dfn_ok (N := N_column_place) (own := [0, 1, 2]) (body := B_column_place) D sc_column_place fun cdv A outer s H vs E hr hg => by
  have tk : Takes (cxOf (L2.CX P w) P w K mg base N_column_place "column_place" (defScope st_column_place) fa cdv A outer s H E) (fun c d _ H' => E c d H') := tk_cx
  have px := passX tk
  have q : MSs (cxOf (L2.CX P w) P w K mg base N_column_place "column_place" (defScope st_column_place) fa cdv A outer s H E) ⟨K, [0, 1, 2], vs, fun c d _ H' => E c d H'⟩ (defBody st_column_place) _ (B_column_place) := (mss_cons (ms_for [3, 4, 5] (passes_of rfl) (mi_enum m.b_enumerate (mds_cons ((me_call c_columns_of hr hg px (mas_cons ((me_var 0)).opd (mas_cons ((me_var 1)).opd mas_nil)))).frz mds_nil)) (mg_tp (mgs_cons (mg_nm 3 sc_column_place.nd) (mgs_cons (mg_tp (mgs_cons (mg_nm 4 sc_column_place.nd) (mgs_cons (mg_nm 5 sc_column_place.nd) mgs_nil))) mgs_nil))) (mss_one (ms_if (mt_cmp (g := gEq) (op_eqK rfl hr) ops_eq ((me_var 4)).opd ((me_var 2)).opd) (mss_one (ms_ret (me_var 3))) mss_nil)))
    (mss_one (ms_raise r_NoSuch (hr.mono hk2) tk (mds_cons (me_str).frz (mds_cons ((me_var 2)).frz mds_nil)))))
  exact ⟨_, q.ps, q.sn⟩

/-! ### rows_of -/
abbrev st_rows_of : Stmt := topS 7
abbrev N_rows_of : List Str := ["tables", "content", "table"]
theorem sc_rows_of : FnScope N_rows_of ["tables", "content", "table"] (defScope st_rows_of) := ⟨rfl, rfl, rfl, by decide +kernel, rfl, by decide +kernel, by decide +kernel⟩
theorem ok_rows_of {P : Program} {w : World} {K : PySem.W.Frag} {mg : Str → Option Value} {base : Heap} {k : Nat} {fa : Addr} {fd : FuncData} (m : Mo K w mg) (D : Dfn K "rows_of" st_rows_of ["tables", "content", "table"] [] fa fd) (c_table_place : Cal P w K mg base (L2.CX P w) k "table_place" 2 [] F_table_place) : FnG P w K mg base (L2.CX P w) (k + 1) fa fd ["tables", "content", "table"] (spM K 3 F_rows_of) :=
  dfn_ok (N := N_rows_of) (own := [0, 1, 2]) (body := B_rows_of) D sc_rows_of fun cdv A outer s H vs E hr hg => by
  have tk : Takes (cxOf (L2.CX P w) P w K mg base N_rows_of "rows_of" (defScope st_rows_of) fa cdv A outer s H E) (fun c d _ H' => E c d H') := tk_cx
  have px := passX tk
  have q : MSs (cxOf (L2.CX P w) P w K mg base N_rows_of "rows_of" (defScope st_rows_of) fa cdv A outer s H E) ⟨K, [0, 1, 2], vs, fun c d _ H' => E c d H'⟩ (defBody st_rows_of) _ (B_rows_of) := (mss_one (ms_ret (me_ix (op_ixK rfl) ops_ix ((me_var 1)).opd ((me_call c_table_place hr hg px (mas_cons ((me_var 0)).opd (mas_cons ((me_var 2)).opd mas_nil)))).opd)))
  exact ⟨_, q.ps, q.sn⟩

/-! ### loose_by -/
abbrev st_loose_by : Stmt := topS 14
abbrev N_loose_by : List Str := ["plan", "content", "told", "there", "row", "place", "rows"]
theorem sc_loose_by : FnScope N_loose_by ["plan", "content", "told"] (defScope st_loose_by) := ⟨rfl, rfl, rfl, by decide +kernel, rfl, by decide +kernel, by decide +kernel⟩
def B_loose_by : Sm := (sSeq (sSet 3 (mDc (mIt (fE (oE (mCall 3 F_rows_of (msCons (oE (mOp gIx (oE (mVar 0)) (oE (mC (.int 0))))) (msCons (oE (mVar 1)) (msCons (oE (mOp gIx (oE (mVar 2)) (oE (mC (.int 3))))) msNil))))))) (.nm 4) [4] mYes (fE (oE (mOp gIx (oE (mVar 4)) (oE (mC (.int 0)))))) (fE (oE (mC (.bool true))))))
    (sSeq (sSet 5 (mCall 3 F_column_place (msCons (oE (mOp gIx (oE (mVar 0)) (oE (mC (.int 0))))) (msCons (oE (mOp gIx (oE (mVar 2)) (oE (mC (.int 1))))) (msCons (oE (mOp gIx (oE (mVar 2)) (oE (mC (.int 2))))) msNil)))))
    (sSeq (sSet 6 (mCall 3 F_rows_of (msCons (oE (mOp gIx (oE (mVar 0)) (oE (mC (.int 0))))) (msCons (oE (mVar 1)) (msCons (oE (mOp gIx (oE (mVar 2)) (oE (mC (.int 1))))) msNil)))))
    (sRet (mLc (mIt (fE (oE (mVar 6)))) (.nm 4) [4] (mAnd (mBl (mOp (bo gNotN) (oE (mOp gIx (oE (mVar 4)) (oE (mVar 5)))) (oE (mC .none)))) (mBl (mDIn true 3 (oE (mOp gIx (oE (mVar 4)) (oE (mVar 5))))))) (fE (oE (mOp gIx (oE (mVar 4)) (oE (mC (.int 0)))))))))))
def F_loose_by : M RV := fnF [0, 1, 2] 7 (B_loose_by)
theorem ok_loose_by {P : Program} {w : World} {K : PySem.W.Frag} {mg : Str → Option Value} {base : Heap} {k : Nat} {fa : Addr} {fd : FuncData} (m : Mo K w mg) (D : Dfn K "loose_by" st_loose_by ["plan", "content", "told"] [] fa fd) (c_rows_of : Cal P w K mg base (L2.CX P w) k "rows_of" 3 [] F_rows_of) (c_column_place : Cal P w K mg base (L2.CX P w) k "column_place" 3 [] F_column_place) : FnG P w K mg base (L2.CX P w) (k + 1) fa fd ["plan", "content", "told"] (spM K 3 F_loose_by) :=
  dfn_ok (N := N_loose_by) (own := [0, 1, 2]) (body := B_loose_by) D sc_loose_by fun cdv A outer s H vs E hr hg => by
  have tk : Takes (cxOf (L2.CX P w) P w K mg base N_loose_by "loose_by" (defScope st_loose_by) fa cdv A outer s H E) (fun c d _ H' => E c d H') := tk_cx
  have px := passX tk
  have q : MSs (cxOf (L2.CX P w) P w K mg base N_loose_by "loose_by" (defScope st_loose_by) fa cdv A outer s H E) ⟨K, [0, 1, 2], vs, fun c d _ H' => E c d H'⟩ (defBody st_loose_by) _ (B_loose_by) := (mss_cons (ms_set 3 sc_loose_by.nd (me_dc [4] (blk_ok (N := N_loose_by) (sc := defScope st_loose_by) (own := [("row", 4)]) rfl (by decide +kernel)) sc_loose_by.nd (mi_any ((me_call c_rows_of hr hg px (mas_cons ((me_ix (op_ixK rfl) ops_ix ((me_var 0)).opd (me_int).opd)).opd (mas_cons ((me_var 1)).opd (mas_cons ((me_ix (op_ixK rfl) ops_ix ((me_var 2)).opd ((me_gint m.g_OTHER)).opd)).opd mas_nil))))).frz) (hv_of rfl) (fun _ _ _ _ _ => (mg_nm 4 sc_loose_by.nd)) (fun _ _ _ _ _ => ⟨pts_nil, snd_yes⟩) (fun _ _ _ _ _ => ((me_ix (op_ixK rfl) ops_ix ((me_var 4)).opd (me_int).opd)).frz) (fun _ _ _ _ _ => (me_bl).frz)))
    (mss_cons (ms_set 5 sc_loose_by.nd (me_call c_column_place hr hg px (mas_cons ((me_ix (op_ixK rfl) ops_ix ((me_var 0)).opd (me_int).opd)).opd (mas_cons ((me_ix (op_ixK rfl) ops_ix ((me_var 2)).opd ((me_gint m.g_TABLE)).opd)).opd (mas_cons ((me_ix (op_ixK rfl) ops_ix ((me_var 2)).opd ((me_gint m.g_COLUMN)).opd)).opd mas_nil)))))
    (mss_cons (ms_set 6 sc_loose_by.nd (me_call c_rows_of hr hg px (mas_cons ((me_ix (op_ixK rfl) ops_ix ((me_var 0)).opd (me_int).opd)).opd (mas_cons ((me_var 1)).opd (mas_cons ((me_ix (op_ixK rfl) ops_ix ((me_var 2)).opd ((me_gint m.g_TABLE)).opd)).opd mas_nil)))))
    (mss_one (ms_ret (me_lc [4] (blk_ok (N := N_loose_by) (sc := defScope st_loose_by) (own := [("row", 4)]) rfl (by decide +kernel)) sc_loose_by.nd (mi_any ((me_var 6)).frz) (hv_of rfl) (fun _ _ _ _ _ => (mg_nm 4 sc_loose_by.nd)) (fun _ _ _ _ _ => let q0 := (mt_cmp (g := gNotN) (op_notN) ops_notN ((me_ix (op_ixK rfl) ops_ix ((me_var 4)).opd ((me_var 5)).opd)).opd (me_non).opd); let q1 := (mt_dNotIn 3 hr ((me_ix (op_ixK rfl) ops_ix ((me_var 4)).opd ((me_var 5)).opd)).opd); ⟨pts_cons q0.pt (pts_one q1.pt), snd_and q0.sn (q1.sn)⟩) (fun _ _ _ _ _ => ((me_ix (op_ixK rfl) ops_ix ((me_var 4)).opd (me_int).opd)).frz)))))))
  exact ⟨_, q.ps, q.sn⟩

/-! ### loose -/
abbrev st_loose : Stmt := topS 15
abbrev N_loose : List Str := ["plan", "content", "when", "ties", "told", "key"]
theorem sc_loose : FnScope N_loose ["plan", "content", "when"] (defScope st_loose) := ⟨rfl, rfl, rfl, by decide +kernel, rfl, by decide +kernel, by decide +kernel⟩
def B_loose : Sm := (sSeq (sSet 3 (mLc (mIt (fE (oE (mOp gIx (oE (mVar 0)) (oE (mC (.int 1))))))) (.nm 4) [4] (mOr (mBl (mOp (bo gIsN) (oE (mVar 2)) (oE (mC .none)))) (mBl (mOp (bo gEq) (oE (mOp gIx (oE (mVar 4)) (oE (mC (.int 6))))) (oE (mVar 2))))) (fE (oE (mVar 4)))))
    (sRet (mLc2 (mIt (fE (oE (mVar 3)))) (.nm 4) [4, 5] mYes (mIt (fE (oE (mCall 3 F_loose_by (msCons (oE (mVar 0)) (msCons (oE (mVar 1)) (msCons (oE (mVar 4)) msNil))))))) (.nm 5) [5] mYes (fE (oE (mTup (dsCons (fE (oE (mOp gIx (oE (mVar 4)) (oE (mC (.int 0)))))) (dsCons (fE (oE (mVar 5))) dsNil))))))))
def F_loose : M RV := fnF [0, 1, 2] 6 (B_loose)
theorem ok_loose {P : Program} {w : World} {K : PySem.W.Frag} {mg : Str → Option Value} {base : Heap} {k : Nat} {fa : Addr} {fd : FuncData} (m : Mo K w mg) (D : DfnX K "loose" st_loose fa fd) (c_loose_by : Cal P w K mg base (L2.CX P w) k "loose_by" 3 [] F_loose_by) : FnG P w K mg base (L2.CX P w) (k + 1) fa fd ["plan", "content", "when"] (spM K 3 F_loose) :=
  dfn_okX (N := N_loose) (own := [0, 1, 2]) (body := B_loose) D sc_loose fun cdv A outer s H vs E hr hg => by
  have tk : Takes (cxOf (L2.CX P w) P w K mg base N_loose "loose" (defScope st_loose) fa cdv A outer s H E) (fun c d _ H' => E c d H') := tk_cx
  have px := passX tk
  have q : MSs (cxOf (L2.CX P w) P w K mg base N_loose "loose" (defScope st_loose) fa cdv A outer s H E) ⟨K, [0, 1, 2], vs, fun c d _ H' => E c d H'⟩ (defBody st_loose) _ (B_loose) := (mss_cons (ms_setLc 3 [4] (blk_ok (N := N_loose) (sc := defScope st_loose) (own := [("told", 4)]) rfl (by decide +kernel)) sc_loose.nd (mi_any ((me_ix (op_ixK rfl) ops_ix ((me_var 0)).opd (me_int).opd)).frz) (hv_of rfl) (fun _ _ _ _ _ => (mg_nm 4 sc_loose.nd)) (fun _ _ _ _ _ => let q0 := ((mw_or (mt_cmp (g := gIsN) (op_isN) ops_isN ((me_var 2)).opd (me_non).opd) (mw_or1 (mt_cmp (g := gEq) (op_eqK rfl hr) ops_eq ((me_ix (op_ixK rfl) ops_ix ((me_var 4)).opd ((me_gint m.g_WHEN)).opd)).opd ((me_var 2)).opd)))).toT; ⟨pts_one q0.pt, q0.sn⟩) (fun _ _ _ _ _ => ((me_var 4)).frz))
    (mss_one (ms_ret (me_lc2 [4, 5] [5] (blk_ok (N := N_loose) (sc := defScope st_loose) (own := [("told", 4), ("key", 5)]) rfl (by decide +kernel)) sc_loose.nd (mi_any ((me_var 3)).frz) (hv_of rfl) (hv_of rfl) (vs_of rfl) (fun _ _ _ _ _ => (mg_nm 4 sc_loose.nd)) (fun _ _ _ _ _ => ⟨pts_nil, snd_yes⟩) (fun _ _ _ _ _ => (mi_any ((me_call c_loose_by hr hg passN (mas_cons ((me_var 0)).opd (mas_cons ((me_var 1)).opd (mas_cons ((me_var 4)).opd mas_nil))))).frz)) (fun _ _ _ _ _ => (mg_nm 5 sc_loose.nd)) (fun _ _ _ _ _ => ⟨pts_nil, snd_yes⟩) (fun _ _ _ _ _ => ((me_tup (mds_cons ((me_ix (op_ixK rfl) ops_ix ((me_var 4)).opd ((me_gint m.g_TIE)).opd)).frz (mds_cons ((me_var 5)).frz mds_nil)))).frz)))))
  exact ⟨_, q.ps, q.sn⟩

/-! ### holds -/
abbrev st_holds : Stmt := topS 16
abbrev N_holds : List Str := ["plan", "content"]
theorem sc_holds : FnScope N_holds ["plan", "content"] (defScope st_holds) := ⟨rfl, rfl, rfl, by decide +kernel, rfl, by decide +kernel, by decide +kernel⟩
def B_holds : Sm := (sRet (mOp (bo gEq) (oE (mCall 3 F_loose (msAppN (msCons (oE (mVar 0)) (msCons (oE (mVar 1)) msNil))))) (oE (mLst dsNil))))
def F_holds : M RV := fnF [0, 1] 2 (B_holds)
theorem ok_holds {P : Program} {w : World} {K : PySem.W.Frag} {mg : Str → Option Value} {base : Heap} {k : Nat} {fa : Addr} {fd : FuncData} (m : Mo K w mg) (D : Dfn K "holds" st_holds ["plan", "content"] [] fa fd) (d_loose : Cal P w K mg base (L2.CX P w) k "loose" 3 [.non] F_loose) : FnG P w K mg base (L2.CX P w) (k + 1) fa fd ["plan", "content"] (spM K 2 F_holds) :=
  dfn_ok (N := N_holds) (own := [0, 1]) (body := B_holds) D sc_holds fun cdv A outer s H vs E hr hg => by
  have tk : Takes (cxOf (L2.CX P w) P w K mg base N_holds "holds" (defScope st_holds) fa cdv A outer s H E) (fun c d _ H' => E c d H') := tk_cx
  have px := passX tk
  have q : MSs (cxOf (L2.CX P w) P w K mg base N_holds "holds" (defScope st_holds) fa cdv A outer s H E) ⟨K, [0, 1], vs, fun c d _ H' => E c d H'⟩ (defBody st_holds) _ (B_holds) := (mss_one (ms_ret (me_cmp (g := gEq) (op_eqK rfl hr) ops_eq ((me_callN d_loose hr hg px (mas_cons ((me_var 0)).opd (mas_cons ((me_var 1)).opd mas_nil)))).opd ((me_lst (j := 0) mds_nil)).opd)))
  exact ⟨_, q.ps, q.sn⟩

/-! ### _law_box -/
abbrev st_law_box : Stmt := topS 18
abbrev N_law_box : List Str := ["script", "k", "cell"]
theorem sc_law_box : FnScope N_law_box ["script", "k"] (defScope st_law_box) := ⟨rfl, rfl, rfl, by decide +kernel, rfl, by decide +kernel, by decide +kernel⟩
theorem ok_law_box {P : Program} {w : World} {K : PySem.W.Frag} {mg : Str → Option Value} {base : Heap} {k : Nat} {fa : Addr} {fd : FuncData} (m : Mo K w mg) (D : Dfn K "_law_box" st_law_box ["script", "k"] [] fa fd)  : FnG P w K mg base (L2.CX P w) (k + 1) fa fd ["script", "k"] (spM K 2 F_law_box) :=
  dfn_ok (N := N_law_box) (own := [0, 1]) (body := B_law_box) D sc_law_box fun cdv A outer s H vs E hr hg => by
  have tk : Takes (cxOf (L2.CX P w) P w K mg base N_law_box "_law_box" (defScope st_law_box) fa cdv A outer s H E) (fun c d _ H' => E c d H') := tk_cx
  have px := passX tk
  have q : MSs (cxOf (L2.CX P w) P w K mg base N_law_box "_law_box" (defScope st_law_box) fa cdv A outer s H E) ⟨K, [0, 1], vs, fun c d _ H' => E c d H'⟩ (defBody st_law_box) _ (B_law_box) := (mss_cons (ms_set 2 sc_law_box.nd (me_ifE (mt_cmp (g := gLt) (op_lt) ops_gI ((me_var 1)).opd ((me_scrLen 0 m.b_len)).opd) (me_scrIx 0 ((me_var 1)).opd) me_int))
    (mss_one (ms_ret (me_lst (j := 0) (mds_cons ((me_op (op_mulXX) ops_mul ((me_callB (call_abs) cs_abs m.b_abs (mas_cons ((me_var 2)).opd mas_nil) PyProof.Rows.boot_abs)).opd ((me_callTy (call_int1) cs_int m.b_int (mas_cons ((me_cmp (g := gGe) (op_ge) ops_gI ((me_callB (call_abs) cs_abs m.b_abs (mas_cons ((me_var 2)).opd mas_nil) PyProof.Rows.boot_abs)).opd ((me_op (op_pow) ops_pow (me_int).opd (me_int).opd)).opd)).opd mas_nil) PyProof.Rows.boot_int)).opd)).frz (mds_cons ((me_op (op_addX rfl) ops_add ((me_op (op_addX rfl) ops_add ((me_op (op_mod) ops_mod ((me_var 2)).opd (me_int).opd)).opd ((me_op (op_mulXX) ops_mul (me_int).opd ((me_var 1)).opd)).opd)).opd (me_int).opd)).frz (mds_cons (me_int).frz mds_nil)))))))
  exact ⟨_, q.ps, q.sn⟩

/-! ### _law_take -/
abbrev st_law_take : Stmt := topS 19
abbrev N_law_take : List Str := ["box", "many", "found", "once"]
theorem sc_law_take : FnScope N_law_take ["box", "many"] (defScope st_law_take) := ⟨rfl, rfl, rfl, by decide +kernel, rfl, by decide +kernel, by decide +kernel⟩
theorem ok_law_take {P : Program} {w : World} {K : PySem.W.Frag} {mg : Str → Option Value} {base : Heap} {k : Nat} {fa : Addr} {fd : FuncData} (m : Mo K w mg) (D : Dfn K "_law_take" st_law_take ["box", "many"] [] fa fd)  : FnG P w K mg base (L2.CX P w) (k + 1) fa fd ["box", "many"] (spM K 2 F_law_take) :=
  dfn_ok (N := N_law_take) (own := [0, 1]) (body := B_law_take) D sc_law_take fun cdv A outer s H vs E hr hg => by
  have tk : Takes (cxOf (L2.CX P w) P w K mg base N_law_take "_law_take" (defScope st_law_take) fa cdv A outer s H E) (fun c d _ H' => E c d H') := tk_cx
  have px := passX tk
  have q : MSs (cxOf (L2.CX P w) P w K mg base N_law_take "_law_take" (defScope st_law_take) fa cdv A outer s H E) ⟨K, [0, 1], vs, fun c d _ H' => E c d H'⟩ (defBody st_law_take) _ (B_law_take) := (mss_cons (ms_if (mt_cmp (g := gGt) (op_gt) ops_gI ((me_ix (op_ixK rfl) ops_ix ((me_var 0)).opd (me_int).opd)).opd (me_int).opd) (mss_cons (ms_set 2 sc_law_take.nd (me_op (op_mod) ops_mod ((me_ix (op_ixK rfl) ops_ix ((me_var 0)).opd (me_int).opd)).opd ((me_var 1)).opd))
    (mss_cons (ms_setItem 0 ((me_op (op_fdivW) ops_div ((me_ix (op_ixK rfl) ops_ix ((me_var 0)).opd (me_int).opd)).opd ((me_var 1)).opd)).frz (me_int).opd)
    (mss_one (ms_ret (me_var 2))))) mss_nil)
    (mss_cons (ms_setItem 0 ((me_op (op_addX rfl) ops_add ((me_ix (op_ixK rfl) ops_ix ((me_var 0)).opd (me_int).opd)).opd (me_int).opd)).frz (me_int).opd)
    (mss_cons (ms_set 3 sc_law_take.nd (me_op (op_mod) ops_mod ((me_op (op_pow) ops_pow ((me_op (op_addX rfl) ops_add ((me_ix (op_ixK rfl) ops_ix ((me_var 0)).opd (me_int).opd)).opd ((me_op (op_mulXX) ops_mul (me_int).opd ((me_ix (op_ixK rfl) ops_ix ((me_var 0)).opd (me_int).opd)).opd)).opd)).opd (me_int).opd)).opd (me_int).opd))
    (mss_one (ms_ret (me_op (op_mod) ops_mod ((me_op (op_fdivW) ops_div ((me_op (op_mod) ops_mod ((me_op (op_addX rfl) ops_add ((me_op (op_mulXX) ops_mul ((me_var 3)).opd ((me_op (op_addX rfl) ops_add ((me_op (op_mod) ops_mod ((me_var 3)).opd (me_int).opd)).opd (me_int).opd)).opd)).opd ((me_op (op_mulXX) ops_mul ((me_ix (op_ixK rfl) ops_ix ((me_var 0)).opd (me_int).opd)).opd (me_int).opd)).opd)).opd (me_int).opd)).opd (me_int).opd)).opd ((me_var 1)).opd))))))
  exact ⟨_, q.ps, q.sn⟩

/-! ### _law_names -/
abbrev st_law_names : Stmt := topS 20
abbrev N_law_names : List Str := ["box", "many", "letters", "first", "way", "step", "words", "k", "head", "turn", "tail", "longer", "found", "value", "name"]
theorem sc_law_names : FnScope N_law_names ["box", "many"] (defScope st_law_names) := ⟨rfl, rfl, rfl, by decide +kernel, rfl, by decide +kernel, by decide +kernel⟩
theorem ok_law_names {P : Program} {w : World} {K : PySem.W.Frag} {mg : Str → Option Value} {base : Heap} {k : Nat} {fa : Addr} {fd : FuncData} (m : Mo K w mg) (D : Dfn K "_law_names" st_law_names ["box", "many"] [] fa fd) (c_law_take : Cal P w K mg base (L2.CX P w) k "_law_take" 2 [] F_law_take) : FnG P w K mg base (L2.CX P w) (k + 1) fa fd ["box", "many"] (spM K 2 F_law_names) :=
  dfn_ok (N := N_law_names) (own := [0, 1]) (body := B_law_names) D sc_law_names fun cdv A outer s H vs E hr hg => by
  have tk : Takes (cxOf (L2.CX P w) P w K mg base N_law_names "_law_names" (defScope st_law_names) fa cdv A outer s H E) (fun c d _ H' => E c d H') := tk_cx
  have px := passX tk
  have q : MSs (cxOf (L2.CX P w) P w K mg base N_law_names "_law_names" (defScope st_law_names) fa cdv A outer s H E) ⟨K, [0, 1], vs, fun c d _ H' => E c d H'⟩ (defBody st_law_names) _ (B_law_names) := (mss_cons (ms_unp [2, 3, 4] ((me_tup (mds_cons (me_str).frz (mds_cons ((me_call c_law_take hr hg px (mas_cons ((me_var 0)).opd (mas_cons (me_int).opd mas_nil)))).frz (mds_cons ((me_call c_law_take hr hg px (mas_cons ((me_var 0)).opd (mas_cons (me_int).opd mas_nil)))).frz mds_nil))))).frz (mg_tp (mgs_cons (mg_nm 2 sc_law_names.nd) (mgs_cons (mg_nm 3 sc_law_names.nd) (mgs_cons (mg_nm 4 sc_law_names.nd) mgs_nil)))))
    (mss_cons (ms_set 5 sc_law_names.nd (me_ix (op_ixK rfl) ops_ix ((me_lst (j := 0) (mds_cons (me_int).frz (mds_cons (me_int).frz (mds_cons (me_int).frz (mds_cons (me_int).frz (mds_cons (me_int).frz (mds_cons (me_int).frz mds_nil)))))))).opd ((me_call c_law_take hr hg px (mas_cons ((me_var 0)).opd (mas_cons (me_int).opd mas_nil)))).opd))
    (mss_cons (ms_if (mt_cmp (g := gEq) (op_eqK rfl hr) ops_eq ((me_var 4)).opd (me_int).opd) (mss_cons (ms_set 6 sc_law_names.nd (me_bm PySem.F.slot_str_split PySem.F.type_str_split mr_split mts_split (me_str).opd (mas_cons (me_str).opd mas_nil)))
    (mss_one (ms_ret (me_sl (sl_X rfl) sls_X ((me_sl (sl_X rfl) sls_X ((me_op (op_addX rfl) ops_add ((me_var 6)).opd ((me_var 6)).opd)).opd (mpo_some ((me_op (op_mod) ops_mod ((me_var 3)).opd (me_int).opd)).opd) mpo_none)).opd mpo_none (mpo_some ((me_var 1)).opd))))) mss_nil)
    (mss_cons (ms_if (mt_cmp (g := gEq) (op_eqK rfl hr) ops_eq ((me_var 4)).opd (me_int).opd) (mss_one (ms_ret (me_lc [7] (blk_ok (N := N_law_names) (sc := defScope st_law_names) (own := [("k", 7)]) rfl (by decide +kernel)) sc_law_names.nd (mi_rng1 m.b_range (mas_cons ((me_var 1)).opd mas_nil)) (hv_of rfl) (fun _ _ _ _ _ => (mg_nm 7 sc_law_names.nd)) (fun _ _ _ _ _ => ⟨pts_nil, snd_yes⟩) (fun _ _ _ _ _ => ((me_ix (op_ixK rfl) ops_ix ((me_var 2)).opd ((me_op (op_mod) ops_mod ((me_op (op_addX rfl) ops_add ((me_var 3)).opd ((me_op (op_mulXX) ops_mul ((me_var 5)).opd ((me_var 7)).opd)).opd)).opd (me_int).opd)).opd)).frz)))) mss_nil)
    (mss_cons (ms_set 8 sc_law_names.nd (me_bm PySem.F.slot_str_join PySem.F.type_str_join (mr_join rfl) mts_join (me_str).opd (mas_cons ((me_lc [9] (blk_ok (N := N_law_names) (sc := defScope st_law_names) (own := [("turn", 9)]) rfl (by decide +kernel)) sc_law_names.nd (mi_rng1 m.b_range (mas_cons ((me_call c_law_take hr hg px (mas_cons ((me_var 0)).opd (mas_cons (me_int).opd mas_nil)))).opd mas_nil)) (hv_of rfl) (fun _ _ _ _ _ => (mg_nm 9 sc_law_names.nd)) (fun _ _ _ _ _ => ⟨pts_nil, snd_yes⟩) (fun _ _ _ _ _ => ((me_ix (op_ixK rfl) ops_ix ((me_var 2)).opd ((me_call c_law_take hr hg passN (mas_cons ((me_var 0)).opd (mas_cons (me_int).opd mas_nil)))).opd)).frz))).opd mas_nil)))
    (mss_cons (ms_set 10 sc_law_names.nd (me_bm PySem.F.slot_str_join PySem.F.type_str_join (mr_join rfl) mts_join (me_str).opd (mas_cons ((me_lc [9] (blk_ok (N := N_law_names) (sc := defScope st_law_names) (own := [("turn", 9)]) rfl (by decide +kernel)) sc_law_names.nd (mi_rng1 m.b_range (mas_cons ((me_call c_law_take hr hg px (mas_cons ((me_var 0)).opd (mas_cons (me_int).opd mas_nil)))).opd mas_nil)) (hv_of rfl) (fun _ _ _ _ _ => (mg_nm 9 sc_law_names.nd)) (fun _ _ _ _ _ => ⟨pts_nil, snd_yes⟩) (fun _ _ _ _ _ => ((me_ix (op_ixK rfl) ops_ix ((me_var 2)).opd ((me_call c_law_take hr hg passN (mas_cons ((me_var 0)).opd (mas_cons (me_int).opd mas_nil)))).opd)).frz))).opd mas_nil)))
    (mss_cons (ms_par2 11 12 sc_law_names.nd (mrs_cons (me_call c_law_take hr hg px (mas_cons ((me_var 0)).opd (mas_cons (me_int).opd mas_nil))) (mrs_cons (me_lst (j := 0) mds_nil) mrs_nil)))
    (mss_cons (ms_for [7] (passes_of rfl) (mi_rng1 m.b_range (mas_cons ((me_var 1)).opd mas_nil)) (mg_nm 7 sc_law_names.nd) (mss_cons (ms_set 13 sc_law_names.nd (me_op (op_mod) ops_mod ((me_op (op_addX rfl) ops_add ((me_var 3)).opd ((me_op (op_mulXX) ops_mul ((me_var 5)).opd ((me_var 7)).opd)).opd)).opd (me_int).opd))
    (mss_cons (ms_set 14 sc_law_names.nd (me_op (op_addX rfl) ops_add ((me_op (op_addX rfl) ops_add ((me_op (op_addX rfl) ops_add ((me_var 8)).opd ((me_ix (op_ixK rfl) ops_ix ((me_var 2)).opd ((me_op (op_fdivW) ops_div ((me_var 13)).opd (me_int).opd)).opd)).opd)).opd ((me_ix (op_ixK rfl) ops_ix ((me_var 2)).opd ((me_op (op_mod) ops_mod ((me_var 13)).opd (me_int).opd)).opd)).opd)).opd ((me_var 10)).opd))
    (mss_cons (ms_if ((mw_and (mt_cmp (g := gEq) (op_eqK rfl hr) ops_eq ((me_var 11)).opd (me_int).opd) (mw_and1 (mt_cmp (g := gEq) (op_eqK rfl hr) ops_eq ((me_op (op_mod) ops_mod ((me_var 7)).opd (me_int).opd)).opd (me_int).opd)))).toT (mss_one (ms_set 14 sc_law_names.nd (me_op (op_addX rfl) ops_add ((me_ix (op_ixK rfl) ops_ix ((me_var 12)).opd ((me_un un_neg uns_neg (me_int).opd)).opd)).opd ((me_ix (op_ixK rfl) ops_ix ((me_var 2)).opd ((me_op (op_mod) ops_mod ((me_op (op_addX rfl) ops_add ((me_var 3)).opd ((me_var 7)).opd)).opd (me_int).opd)).opd)).opd))) mss_nil)
    (mss_one (ms_append 12 (mds_cons ((me_var 14)).frz mds_nil) ((me_var 14)).frz))))))
    (mss_one (ms_ret (me_var 12)))))))))))
  exact ⟨_, q.ps, q.sn⟩

/-! ### _law_tables -/
abbrev st_law_tables : Stmt := topS 21
abbrev N_law_tables : List Str := ["box", "most", "found", "shared", "name", "names", "columns", "column"]
theorem sc_law_tables : FnScope N_law_tables ["box", "most"] (defScope st_law_tables) := ⟨rfl, rfl, rfl, by decide +kernel, rfl, by decide +kernel, by decide +kernel⟩
theorem ok_law_tables {P : Program} {w : World} {K : PySem.W.Frag} {mg : Str → Option Value} {base : Heap} {k : Nat} {fa : Addr} {fd : FuncData} (m : Mo K w mg) (D : Dfn K "_law_tables" st_law_tables ["box", "most"] [] fa fd) (c_law_names : Cal P w K mg base (L2.CX P w) k "_law_names" 2 [] F_law_names) (c_law_take : Cal P w K mg base (L2.CX P w) k "_law_take" 2 [] F_law_take) : FnG P w K mg base (L2.CX P w) (k + 1) fa fd ["box", "most"] (spM K 2 F_law_tables) :=
  dfn_ok (N := N_law_tables) (own := [0, 1]) (body := B_law_tables) D sc_law_tables fun cdv A outer s H vs E hr hg => by
  have tk : Takes (cxOf (L2.CX P w) P w K mg base N_law_tables "_law_tables" (defScope st_law_tables) fa cdv A outer s H E) (fun c d _ H' => E c d H') := tk_cx
  have px := passX tk
  have q : MSs (cxOf (L2.CX P w) P w K mg base N_law_tables "_law_tables" (defScope st_law_tables) fa cdv A outer s H E) ⟨K, [0, 1], vs, fun c d _ H' => E c d H'⟩ (defBody st_law_tables) _ (B_law_tables) := (mss_cons (ms_par2 2 3 sc_law_tables.nd (mrs_cons (me_lst (j := 0) mds_nil) (mrs_cons (me_call c_law_names hr hg px (mas_cons ((me_var 0)).opd (mas_cons (me_int).opd mas_nil))) mrs_nil)))
    (mss_cons (ms_for [4] (passes_of rfl) (mi_any ((me_call c_law_names hr hg px (mas_cons ((me_var 0)).opd (mas_cons ((me_op (op_addX rfl) ops_add (me_int).opd ((me_call c_law_take hr hg px (mas_cons ((me_var 0)).opd (mas_cons ((me_var 1)).opd mas_nil)))).opd)).opd mas_nil)))).frz) (mg_nm 4 sc_law_tables.nd) (mss_cons (ms_set 5 sc_law_tables.nd (me_sl (sl_X rfl) sls_X ((me_ix (op_ixK rfl) ops_ix ((me_lst (j := 0) (mds_cons ((me_var 3)).frz (mds_cons ((me_call c_law_names hr hg px (mas_cons ((me_var 0)).opd (mas_cons (me_int).opd mas_nil)))).frz mds_nil)))).opd ((me_call c_law_take hr hg px (mas_cons ((me_var 0)).opd (mas_cons (me_int).opd mas_nil)))).opd)).opd mpo_none (mpo_some ((me_op (op_addX rfl) ops_add (me_int).opd ((me_call c_law_take hr hg px (mas_cons ((me_var 0)).opd (mas_cons (me_int).opd mas_nil)))).opd)).opd)))
    (mss_cons (ms_set 6 sc_law_tables.nd (me_lst (j := 0) (mds_cons ((me_tup (mds_cons ((me_ix (op_ixK rfl) ops_ix ((me_var 5)).opd (me_int).opd)).frz (mds_cons (me_non).frz mds_nil)))).frz mds_nil)))
    (mss_cons (ms_for [7] (passes_of rfl) (mi_any ((me_sl (sl_X rfl) sls_X ((me_var 5)).opd (mpo_some (me_int).opd) mpo_none)).frz) (mg_nm 7 sc_law_tables.nd) (mss_one (ms_append 6 (mds_cons ((me_tup (mds_cons ((me_var 7)).frz (mds_cons ((me_ix (op_ixK rfl) ops_ix ((me_lst (j := 0) (mds_cons (me_non).frz (mds_cons ((me_op (op_subX) ops_sub ((me_call c_law_take hr hg px (mas_cons ((me_var 0)).opd (mas_cons (me_int).opd mas_nil)))).opd (me_int).opd)).frz (mds_cons ((me_op (op_pow) ops_pow (me_int).opd (me_int).opd)).frz mds_nil))))).opd ((me_call c_law_take hr hg px (mas_cons ((me_var 0)).opd (mas_cons (me_int).opd mas_nil)))).opd)).frz mds_nil)))).frz mds_nil) ((me_tup (mds_cons ((me_var 7)).frz (mds_cons ((me_ix (op_ixK rfl) ops_ix ((me_lst (j := 0) (mds_cons (me_non).frz (mds_cons ((me_op (op_subX) ops_sub ((me_call c_law_take hr hg px (mas_cons ((me_var 0)).opd (mas_cons (me_int).opd mas_nil)))).opd (me_int).opd)).frz (mds_cons ((me_op (op_pow) ops_pow (me_int).opd (me_int).opd)).frz mds_nil))))).opd ((me_call c_law_take hr hg px (mas_cons ((me_var 0)).opd (mas_cons (me_int).opd mas_nil)))).opd)).frz mds_nil)))).frz)))
    (mss_one (ms_append 2 (mds_cons ((me_tup (mds_cons ((me_var 4)).frz (mds_cons ((me_callTy (cr_tuple rfl) cs_tuple m.b_tuple (mas_cons ((me_var 6)).opd mas_nil) PyProof.Rows.boot_tuple)).frz mds_nil)))).frz mds_nil) ((me_tup (mds_cons ((me_var 4)).frz (mds_cons ((me_callTy (cr_tuple rfl) cs_tuple m.b_tuple (mas_cons ((me_var 6)).opd mas_nil) PyProof.Rows.boot_tuple)).frz mds_nil)))).frz))))))
    (mss_one (ms_ret (me_callTy (cr_tuple rfl) cs_tuple m.b_tuple (mas_cons ((me_var 2)).opd mas_nil) PyProof.Rows.boot_tuple)))))
  exact ⟨_, q.ps, q.sn⟩

/-! ### _law_ties -/
abbrev st_law_ties : Stmt := topS 22
abbrev N_law_ties : List Str := ["box", "tables", "most", "found", "ways", "name", "table", "columns", "place", "gone", "turned", "other", "late"]
theorem sc_law_ties : FnScope N_law_ties ["box", "tables", "most"] (defScope st_law_ties) := ⟨rfl, rfl, rfl, by decide +kernel, rfl, by decide +kernel, by decide +kernel⟩
theorem ok_law_ties {P : Program} {w : World} {K : PySem.W.Frag} {mg : Str → Option Value} {base : Heap} {k : Nat} {fa : Addr} {fd : FuncData} (m : Mo K w mg) (D : Dfn K "_law_ties" st_law_ties ["box", "tables", "most"] [] fa fd) (c_law_names : Cal P w K mg base (L2.CX P w) k "_law_names" 2 [] F_law_names) (c_law_take : Cal P w K mg base (L2.CX P w) k "_law_take" 2 [] F_law_take) : FnG P w K mg base (L2.CX P w) (k + 1) fa fd ["box", "tables", "most"] (spM K 3 F_law_ties) :=
  dfn_ok (N := N_law_ties) (own := [0, 1, 2]) (body := B_law_ties) D sc_law_ties fun cdv A outer s H vs E hr hg => by
  have tk : Takes (cxOf (L2.CX P w) P w K mg base N_law_ties "_law_ties" (defScope st_law_ties) fa cdv A outer s H E) (fun c d _ H' => E c d H') := tk_cx
  have px := passX tk
  have q : MSs (cxOf (L2.CX P w) P w K mg base N_law_ties "_law_ties" (defScope st_law_ties) fa cdv A outer s H E) ⟨K, [0, 1, 2], vs, fun c d _ H' => E c d H'⟩ (defBody st_law_ties) _ (B_law_ties) := (mss_cons (ms_par2 3 4 sc_law_ties.nd (mrs_cons (me_lst (j := 0) mds_nil) (mrs_cons (me_lst (j := 0) (mds_cons (me_str).frz (mds_cons (me_str).frz (mds_cons (me_str).frz (mds_cons (me_str).frz (mds_cons (me_str).frz (mds_cons (me_str).frz mds_nil))))))) mrs_nil)))
    (mss_cons (ms_for [5] (passes_of rfl) (mi_any ((me_call c_law_names hr hg px (mas_cons ((me_var 0)).opd (mas_cons ((me_call c_law_take hr hg px (mas_cons ((me_var 0)).opd (mas_cons ((me_op (op_addX rfl) ops_add ((me_var 2)).opd (me_int).opd)).opd mas_nil)))).opd mas_nil)))).frz) (mg_nm 5 sc_law_ties.nd) (mss_cons (ms_unp [6, 7] ((me_ix (op_ixK rfl) ops_ix ((me_var 1)).opd ((me_call c_law_take hr hg px (mas_cons ((me_var 0)).opd (mas_cons ((me_callB (cr_len rfl) cs_len m.b_len (mas_cons ((me_var 1)).opd mas_nil) PySem.boot_len)).opd mas_nil)))).opd)).frz (mg_tp (mgs_cons (mg_nm 6 sc_law_ties.nd) (mgs_cons (mg_nm 7 sc_law_ties.nd) mgs_nil))))
    (mss_cons (ms_set 8 sc_law_ties.nd (me_callB (call_max2 rfl) cs_max m.b_max (mas_cons (me_int).opd (mas_cons ((me_callB (call_min2 rfl) cs_min m.b_min (mas_cons ((me_op (op_subX) ops_sub ((me_callB (cr_len rfl) cs_len m.b_len (mas_cons ((me_var 7)).opd mas_nil) PySem.boot_len)).opd (me_int).opd)).opd (mas_cons ((me_op (op_subX) ops_sub ((me_call c_law_take hr hg px (mas_cons ((me_var 0)).opd (mas_cons (me_int).opd mas_nil)))).opd (me_int).opd)).opd mas_nil)) PyProof.Rows.boot_min)).opd mas_nil)) PyProof.Rows.boot_max))
    (mss_cons (ms_par2 9 10 sc_law_ties.nd (mrs_cons (me_ix (op_ixK rfl) ops_ix ((me_var 4)).opd ((me_call c_law_take hr hg px (mas_cons ((me_var 0)).opd (mas_cons (me_int).opd mas_nil)))).opd) (mrs_cons (me_ix (op_ixK rfl) ops_ix ((me_var 4)).opd ((me_call c_law_take hr hg px (mas_cons ((me_var 0)).opd (mas_cons (me_int).opd mas_nil)))).opd) mrs_nil)))
    (mss_cons (ms_if (mt_cmp (g := gEq) (op_eqK rfl hr) ops_eq ((me_var 8)).opd (me_int).opd) (mss_one (ms_par2 9 10 sc_law_ties.nd (mrs_cons (me_ix (op_ixK rfl) ops_ix ((me_lst (j := 0) (mds_cons (me_str).frz (mds_cons (me_str).frz (mds_cons (me_str).frz mds_nil))))).opd ((me_call c_law_take hr hg px (mas_cons ((me_var 0)).opd (mas_cons (me_int).opd mas_nil)))).opd) (mrs_cons (me_ix (op_ixK rfl) ops_ix ((me_lst (j := 0) (mds_cons (me_str).frz (mds_cons (me_str).frz (mds_cons (me_str).frz mds_nil))))).opd ((me_call c_law_take hr hg px (mas_cons ((me_var 0)).opd (mas_cons (me_int).opd mas_nil)))).opd) mrs_nil)))) mss_nil)
    (mss_cons (ms_par2 11 12 sc_law_ties.nd (mrs_cons (me_ix (op_ixK rfl) ops_ix ((me_ix (op_ixK rfl) ops_ix ((me_var 1)).opd ((me_call c_law_take hr hg px (mas_cons ((me_var 0)).opd (mas_cons ((me_callB (cr_len rfl) cs_len m.b_len (mas_cons ((me_var 1)).opd mas_nil) PySem.boot_len)).opd mas_nil)))).opd)).opd (me_int).opd) (mrs_cons (me_ix (op_ixK rfl) ops_ix ((me_lst (j := 0) (mds_cons (me_str).frz (mds_cons (me_str).frz mds_nil)))).opd ((me_call c_law_take hr hg px (mas_cons ((me_var 0)).opd (mas_cons (me_int).opd mas_nil)))).opd) mrs_nil)))
    (mss_one (ms_append 3 (mds_cons ((me_tup (mds_cons ((me_var 5)).frz (mds_cons ((me_var 6)).frz (mds_cons ((me_ix (op_ixK rfl) ops_ix ((me_ix (op_ixK rfl) ops_ix ((me_var 7)).opd ((me_var 8)).opd)).opd (me_int).opd)).frz (mds_cons ((me_var 11)).frz (mds_cons ((me_var 9)).frz (mds_cons ((me_var 10)).frz (mds_cons ((me_var 12)).frz mds_nil))))))))).frz mds_nil) ((me_tup (mds_cons ((me_var 5)).frz (mds_cons ((me_var 6)).frz (mds_cons ((me_ix (op_ixK rfl) ops_ix ((me_ix (op_ixK rfl) ops_ix ((me_var 7)).opd ((me_var 8)).opd)).opd (me_int).opd)).frz (mds_cons ((me_var 11)).frz (mds_cons ((me_var 9)).frz (mds_cons ((me_var 10)).frz (mds_cons ((me_var 12)).frz mds_nil))))))))).frz))))))))
    (mss_one (ms_ret (me_callTy (cr_tuple rfl) cs_tuple m.b_tuple (mas_cons ((me_var 3)).opd mas_nil) PyProof.Rows.boot_tuple)))))
  exact ⟨_, q.ps, q.sn⟩

/-! ### _law_place -/
abbrev st_law_place : Stmt := topS 23
abbrev N_law_place : List Str := ["tables", "table", "name", "columns"]
theorem sc_law_place : FnScope N_law_place ["tables", "table"] (defScope st_law_place) := ⟨rfl, rfl, rfl, by decide +kernel, rfl, by decide +kernel, by decide +kernel⟩
theorem ok_law_place {P : Program} {w : World} {K : PySem.W.Frag} {mg : Str → Option Value} {base : Heap} {k : Nat} {fa : Addr} {fd : FuncData} (m : Mo K w mg) (D : Dfn K "_law_place" st_law_place ["tables", "table"] [] fa fd)  : FnG P w K mg base (L2.CX P w) (k + 1) fa fd ["tables", "table"] (spM K 2 F_law_place) :=
  dfn_ok (N := N_law_place) (own := [0, 1]) (body := B_law_place) D sc_law_place fun cdv A outer s H vs E hr hg => by
  have tk : Takes (cxOf (L2.CX P w) P w K mg base N_law_place "_law_place" (defScope st_law_place) fa cdv A outer s H E) (fun c d _ H' => E c d H') := tk_cx
  have px := passX tk
  have q : MSs (cxOf (L2.CX P w) P w K mg base N_law_place "_law_place" (defScope st_law_place) fa cdv A outer s H E) ⟨K, [0, 1], vs, fun c d _ H' => E c d H'⟩ (defBody st_law_place) _ (B_law_place) := (mss_one (ms_ret (me_index ((me_lc [2, 3] (blk_ok (N := N_law_place) (sc := defScope st_law_place) (own := [("name", 2), ("columns", 3)]) rfl (by decide +kernel)) sc_law_place.nd (mi_any ((me_var 0)).frz) (hv_of rfl) (fun _ _ _ _ _ => (mg_tp (mgs_cons (mg_nm 2 sc_law_place.nd) (mgs_cons (mg_nm 3 sc_law_place.nd) mgs_nil)))) (fun _ _ _ _ _ => ⟨pts_nil, snd_yes⟩) (fun _ _ _ _ _ => ((me_var 2)).frz))).opd (mas_cons ((me_var 1)).opd mas_nil))))
  exact ⟨_, q.ps, q.sn⟩

/-! ### _law_column -/
abbrev st_law_column : Stmt := topS 24
abbrev N_law_column : List Str := ["tables", "table", "column", "name", "fallback"]
theorem sc_law_column : FnScope N_law_column ["tables", "table", "column"] (defScope st_law_column) := ⟨rfl, rfl, rfl, by decide +kernel, rfl, by decide +kernel, by decide +kernel⟩
theorem ok_law_column {P : Program} {w : World} {K : PySem.W.Frag} {mg : Str → Option Value} {base : Heap} {k : Nat} {fa : Addr} {fd : FuncData} (m : Mo K w mg) (D : Dfn K "_law_column" st_law_column ["tables", "table", "column"] [] fa fd) (c_law_place : Cal P w K mg base (L2.CX P w) k "_law_place" 2 [] F_law_place) : FnG P w K mg base (L2.CX P w) (k + 1) fa fd ["tables", "table", "column"] (spM K 3 F_law_column) :=
  dfn_ok (N := N_law_column) (own := [0, 1, 2]) (body := B_law_column) D sc_law_column fun cdv A outer s H vs E hr hg => by
  have tk : Takes (cxOf (L2.CX P w) P w K mg base N_law_column "_law_column" (defScope st_law_column) fa cdv A outer s H E) (fun c d _ H' => E c d H') := tk_cx
  have px := passX tk
  have q : MSs (cxOf (L2.CX P w) P w K mg base N_law_column "_law_column" (defScope st_law_column) fa cdv A outer s H E) ⟨K, [0, 1, 2], vs, fun c d _ H' => E c d H'⟩ (defBody st_law_column) _ (B_law_column) := (mss_one (ms_ret (me_index ((me_lc [3, 4] (blk_ok (N := N_law_column) (sc := defScope st_law_column) (own := [("name", 3), ("fallback", 4)]) rfl (by decide +kernel)) sc_law_column.nd (mi_any ((me_ix (op_ixK rfl) ops_ix ((me_ix (op_ixK rfl) ops_ix ((me_var 0)).opd ((me_call c_law_place hr hg px (mas_cons ((me_var 0)).opd (mas_cons ((me_var 1)).opd mas_nil)))).opd)).opd (me_int).opd)).frz) (hv_of rfl) (fun _ _ _ _ _ => (mg_tp (mgs_cons (mg_nm 3 sc_law_column.nd) (mgs_cons (mg_nm 4 sc_law_column.nd) mgs_nil)))) (fun _ _ _ _ _ => ⟨pts_nil, snd_yes⟩) (fun _ _ _ _ _ => ((me_var 3)).frz))).opd (mas_cons ((me_var 2)).opd mas_nil))))
  exact ⟨_, q.ps, q.sn⟩

/-! ### _law_content -/
abbrev st_law_content : Stmt := topS 25
abbrev N_law_content : List Str := ["box", "tables", "ties", "most", "marks", "found", "table", "some", "turn", "at", "columns", "rows", "mark", "row", "column", "fallback", "on", "tie", "more"]
theorem sc_law_content : FnScope N_law_content ["box", "tables", "ties", "most"] (defScope st_law_content) := ⟨rfl, rfl, rfl, by decide +kernel, rfl, by decide +kernel, by decide +kernel⟩
theorem ok_law_content {P : Program} {w : World} {K : PySem.W.Frag} {mg : Str → Option Value} {base : Heap} {k : Nat} {fa : Addr} {fd : FuncData} (m : Mo K w mg) (D : Dfn K "_law_content" st_law_content ["box", "tables", "ties", "most"] [] fa fd) (c_law_take : Cal P w K mg base (L2.CX P w) k "_law_take" 2 [] F_law_take) (c_law_place : Cal P w K mg base (L2.CX P w) k "_law_place" 2 [] F_law_place) : FnG P w K mg base (L2.CX P w) (k + 1) fa fd ["box", "tables", "ties", "most"] (spM K 4 F_law_content) :=
  dfn_ok (N := N_law_content) (own := [0, 1, 2, 3]) (body := B_law_content) D sc_law_content fun cdv A outer s H vs E hr hg => by
  have tk : Takes (cxOf (L2.CX P w) P w K mg base N_law_content "_law_content" (defScope st_law_content) fa cdv A outer s H E) (fun c d _ H' => E c d H') := tk_cx
  have px := passX tk
  have q : MSs (cxOf (L2.CX P w) P w K mg base N_law_content "_law_content" (defScope st_law_content) fa cdv A outer s H E) ⟨K, [0, 1, 2, 3], vs, fun c d _ H' => E c d H'⟩ (defBody st_law_content) _ (B_law_content) := (mss_cons (ms_par2 4 5 sc_law_content.nd (mrs_cons (me_lst (j := 0) mds_nil) (mrs_cons (me_lst (j := 0) mds_nil) mrs_nil)))
    (mss_cons (ms_for [6] (passes_of rfl) (mi_any ((me_var 1)).frz) (mg_nm 6 sc_law_content.nd) (mss_cons (ms_setLc 7 [8] (blk_ok (N := N_law_content) (sc := defScope st_law_content) (own := [("turn", 8)]) rfl (by decide +kernel)) sc_law_content.nd (mi_rng1 m.b_range (mas_cons ((me_call c_law_take hr hg px (mas_cons ((me_var 0)).opd (mas_cons ((me_op (op_addX rfl) ops_add ((me_var 3)).opd (me_int).opd)).opd mas_nil)))).opd mas_nil)) (hv_of rfl) (fun _ _ _ _ _ => (mg_nm 8 sc_law_content.nd)) (fun _ _ _ _ _ => ⟨pts_nil, snd_yes⟩) (fun _ _ _ _ _ => ((me_op (op_subX) ops_sub ((me_call c_law_take hr hg passN (mas_cons ((me_var 0)).opd (mas_cons (me_int).opd mas_nil)))).opd (me_int).opd)).frz))
    (mss_one (ms_append 4 (mds_cons ((me_sortSet ((me_op (op_addX rfl) ops_add ((me_var 7)).opd ((me_op (op_mulXX) ops_mul ((me_lst (j := 0) (mds_cons ((me_op (op_pow) ops_pow (me_int).opd (me_int).opd)).frz mds_nil))).opd ((me_callTy (call_int1) cs_int m.b_int (mas_cons ((me_cmp (g := gEq) (op_eqK rfl hr) ops_eq ((me_call c_law_take hr hg px (mas_cons ((me_var 0)).opd (mas_cons (me_int).opd mas_nil)))).opd (me_int).opd)).opd mas_nil) PyProof.Rows.boot_int)).opd)).opd)).opd m.b_sorted m.b_set)).frz mds_nil) ((me_sortSet ((me_op (op_addX rfl) ops_add ((me_var 7)).opd ((me_op (op_mulXX) ops_mul ((me_lst (j := 0) (mds_cons ((me_op (op_pow) ops_pow (me_int).opd (me_int).opd)).frz mds_nil))).opd ((me_callTy (call_int1) cs_int m.b_int (mas_cons ((me_cmp (g := gEq) (op_eqK rfl hr) ops_eq ((me_call c_law_take hr hg px (mas_cons ((me_var 0)).opd (mas_cons (me_int).opd mas_nil)))).opd (me_int).opd)).opd mas_nil) PyProof.Rows.boot_int)).opd)).opd)).opd m.b_sorted m.b_set)).frz))))
    (mss_cons (ms_for [9, 6, 10] (passes_of rfl) (mi_enum m.b_enumerate (mds_cons ((me_var 1)).frz mds_nil)) (mg_tp (mgs_cons (mg_nm 9 sc_law_content.nd) (mgs_cons (mg_tp (mgs_cons (mg_nm 6 sc_law_content.nd) (mgs_cons (mg_nm 10 sc_law_content.nd) mgs_nil))) mgs_nil))) (mss_cons (ms_set 11 sc_law_content.nd (me_lst (j := 0) mds_nil))
    (mss_cons (ms_for [12] (passes_of rfl) (mi_any ((me_ix (op_ixK rfl) ops_ix ((me_var 4)).opd ((me_var 9)).opd)).frz) (mg_nm 12 sc_law_content.nd) (mss_cons (ms_set 13 sc_law_content.nd (me_lst (j := 0) (mds_cons ((me_var 12)).frz mds_nil)))
    (mss_cons (ms_for [14, 15] (passes_of rfl) (mi_any ((me_sl (sl_X rfl) sls_X ((me_var 10)).opd (mpo_some (me_int).opd) mpo_none)).frz) (mg_tp (mgs_cons (mg_nm 14 sc_law_content.nd) (mgs_cons (mg_nm 15 sc_law_content.nd) mgs_nil))) (mss_cons (ms_setLc 16 [17] (blk_ok (N := N_law_content) (sc := defScope st_law_content) (own := [("tie", 17)]) rfl (by decide +kernel)) sc_law_content.nd (mi_any ((me_var 2)).frz) (hv_of rfl) (fun _ _ _ _ _ => (mg_nm 17 sc_law_content.nd)) (fun _ _ _ _ _ => let q0 := (mt_cmp (g := gEq) (op_eqK rfl hr) ops_eq ((me_sl (sl_X rfl) sls_X ((me_var 17)).opd (mpo_some (me_int).opd) (mpo_some (me_int).opd))).opd ((me_tup (mds_cons ((me_var 6)).frz (mds_cons ((me_var 14)).frz mds_nil)))).opd); ⟨pts_one q0.pt, q0.sn⟩) (fun _ _ _ _ _ => ((me_ix (op_ixK rfl) ops_ix ((me_var 17)).opd (me_int).opd)).frz))
    (mss_cons (ms_set 7 sc_law_content.nd (me_lst (j := 0) (mds_cons (me_int).frz (mds_cons (me_int).frz (mds_cons (me_int).frz mds_nil)))))
    (mss_cons (ms_if (mt_cmp (g := gNe) (op_neK rfl hr) ops_ne ((me_var 16)).opd ((me_lst (j := 0) mds_nil)).opd) (mss_one (ms_set 7 sc_law_content.nd (me_ix (op_ixK rfl) ops_ix ((me_var 4)).opd ((me_call c_law_place hr hg px (mas_cons ((me_var 1)).opd (mas_cons ((me_ix (op_ixK rfl) ops_ix ((me_var 16)).opd ((me_call c_law_take hr hg px (mas_cons ((me_var 0)).opd (mas_cons ((me_callB (cr_len rfl) cs_len m.b_len (mas_cons ((me_var 16)).opd mas_nil) PySem.boot_len)).opd mas_nil)))).opd)).opd mas_nil)))).opd))) mss_nil)
    (mss_cons (ms_set 18 sc_law_content.nd (me_op (op_addX rfl) ops_add ((me_lst (j := 0) (mds_cons (me_non).frz (mds_cons ((me_var 15)).frz (mds_cons ((me_op (op_subX) ops_sub ((me_call c_law_take hr hg px (mas_cons ((me_var 0)).opd (mas_cons (me_int).opd mas_nil)))).opd (me_int).opd)).frz mds_nil))))).opd ((me_sl (sl_X rfl) sls_X ((me_op (op_addX rfl) ops_add ((me_op (op_addX rfl) ops_add ((me_var 7)).opd ((me_var 7)).opd)).opd ((me_var 7)).opd)).opd mpo_none (mpo_some (me_int).opd))).opd))
    (mss_one (ms_append 13 (mds_cons ((me_ix (op_ixK rfl) ops_ix ((me_var 18)).opd ((me_call c_law_take hr hg px (mas_cons ((me_var 0)).opd (mas_cons ((me_callB (cr_len rfl) cs_len m.b_len (mas_cons ((me_var 18)).opd mas_nil) PySem.boot_len)).opd mas_nil)))).opd)).frz mds_nil) ((me_ix (op_ixK rfl) ops_ix ((me_var 18)).opd ((me_call c_law_take hr hg px (mas_cons ((me_var 0)).opd (mas_cons ((me_callB (cr_len rfl) cs_len m.b_len (mas_cons ((me_var 18)).opd mas_nil) PySem.boot_len)).opd mas_nil)))).opd)).frz)))))))
    (mss_one (ms_append 11 (mds_cons ((me_callTy (cr_tuple rfl) cs_tuple m.b_tuple (mas_cons ((me_var 13)).opd mas_nil) PyProof.Rows.boot_tuple)).frz mds_nil) ((me_callTy (cr_tuple rfl) cs_tuple m.b_tuple (mas_cons ((me_var 13)).opd mas_nil) PyProof.Rows.boot_tuple)).frz)))))
    (mss_one (ms_append 5 (mds_cons ((me_var 11)).frz mds_nil) ((me_var 11)).frz)))))
    (mss_one (ms_ret (me_var 5))))))
  exact ⟨_, q.ps, q.sn⟩

/-! ### _law_handed -/
abbrev st_law_handedO : Stmt := topS 26
abbrev N_law_handedO : List Str := ["box", "content", "way", "rows", "row"]
theorem sc_law_handedO : FnScope N_law_handedO ["box", "content"] (defScope st_law_handedO) := ⟨rfl, rfl, rfl, by decide +kernel, rfl, by decide +kernel, by decide +kernel⟩
def B_law_handedO : Sm := (sSeq (sSet 2 (mCall 2 F_law_take (msCons (oE (mVar 0)) (msCons (oE (mC (.int 3))) msNil))))
    (sSeq (sIf (mBl (mOp (bo gEq) (oE (mVar 2)) (oE (mC (.int 0))))) (sRet (mLcO 1 (.nm 3) [3] mYes (fE (oE (mLc (mIt (fE (oE (mVar 3)))) (.nm 4) [4] mYes (fE (oE (mCallB gTuple (msCons (oE (mVar 4)) msNil))))))))) sNext)
    (sSeq (sIf (mBl (mOp (bo gEq) (oE (mVar 2)) (oE (mC (.int 1))))) (sRet (mLcO 1 (.nm 3) [3] mYes (fE (oE (mLc (mIt (fE (oE (mVar 3)))) (.nm 4) [4] mYes (fE (oE (mCallB gList (msCons (oE (mVar 4)) msNil))))))))) sNext)
    (sRet (mCallB gTuple (msCons (oE (mLcO 1 (.nm 3) [3] mYes (fE (oE (mCallB gTuple (msCons (oE (mLc (mIt (fE (oE (mVar 3)))) (.nm 4) [4] mYes (fE (oE (mCallB gTuple (msCons (oE (mVar 4)) msNil)))))) msNil)))))) msNil))))))
def F_law_handedO : M RV := fnF [0, 1] 5 (B_law_handedO)
theorem ok_law_handedO {P : Program} {w : World} {K : PySem.W.Frag} {mg : Str → Option Value} {base : Heap} {k : Nat} {fa : Addr} {fd : FuncData} (m : Mo K w mg) (D : Dfn K "_law_handed" st_law_handedO ["box", "content"] [] fa fd) (c_law_take : Cal P w K mg base (L2.CX P w) k "_law_take" 2 [] F_law_take) : FnG P w K mg base (L2.CX P w) (k + 1) fa fd ["box", "content"] (spM K 2 F_law_handedO) :=
  dfn_ok (N := N_law_handedO) (own := [0, 1]) (body := B_law_handedO) D sc_law_handedO fun cdv A outer s H vs E hr hg => by
  have tk : Takes (cxOf (L2.CX P w) P w K mg base N_law_handedO "_law_handed" (defScope st_law_handedO) fa cdv A outer s H E) (fun c d _ H' => E c d H') := tk_cx
  have px := passX tk
  have q : MSs (cxOf (L2.CX P w) P w K mg base N_law_handedO "_law_handed" (defScope st_law_handedO) fa cdv A outer s H E) ⟨K, [0, 1], vs, fun c d _ H' => E c d H'⟩ (defBody st_law_handedO) _ (B_law_handedO) := (mss_cons (ms_set 2 sc_law_handedO.nd (me_call c_law_take hr hg px (mas_cons ((me_var 0)).opd (mas_cons (me_int).opd mas_nil))))
    (mss_cons (ms_if (mt_cmp (g := gEq) (op_eqK rfl hr) ops_eq ((me_var 2)).opd (me_int).opd) (mss_one (ms_ret (me_lcO (X := (cxOf (L2.CX P w) P w K mg base N_law_handedO "_law_handed" (defScope st_law_handedO) fa cdv A outer s H E)) (C := ⟨K, [0, 1], vs, fun c d _ H' => E c d H'⟩) [3] 1 (blk_ok (N := N_law_handedO) (sc := defScope st_law_handedO) (own := [("rows", 3)]) rfl (by decide +kernel)) sc_law_handedO.nd (hv_of rfl) (fun _ _ _ _ _ => (mg_nm 3 sc_law_handedO.nd)) (fun _ _ _ _ _ => ⟨pts_nil, snd_yes⟩) (fun _ _ _ _ _ => ((me_lc [4] (by exact blk_ok (own := [("row", 4)]) rfl (of_decide_eq_true (Eq.refl true))) sc_law_handedO.nd (mi_any ((me_var 3)).frz) (hv_of rfl) (fun _ _ _ _ _ => (mg_nm 4 sc_law_handedO.nd)) (fun _ _ _ _ _ => ⟨pts_nil, snd_yes⟩) (fun _ _ _ _ _ => ((me_callTy (cr_tuple rfl) cs_tuple m.b_tuple (mas_cons ((me_var 4)).opd mas_nil) PyProof.Rows.boot_tuple)).frz))).frz)))) mss_nil)
    (mss_cons (ms_if (mt_cmp (g := gEq) (op_eqK rfl hr) ops_eq ((me_var 2)).opd (me_int).opd) (mss_one (ms_ret (me_lcO (X := (cxOf (L2.CX P w) P w K mg base N_law_handedO "_law_handed" (defScope st_law_handedO) fa cdv A outer s H E)) (C := ⟨K, [0, 1], vs, fun c d _ H' => E c d H'⟩) [3] 1 (blk_ok (N := N_law_handedO) (sc := defScope st_law_handedO) (own := [("rows", 3)]) rfl (by decide +kernel)) sc_law_handedO.nd (hv_of rfl) (fun _ _ _ _ _ => (mg_nm 3 sc_law_handedO.nd)) (fun _ _ _ _ _ => ⟨pts_nil, snd_yes⟩) (fun _ _ _ _ _ => ((me_lc [4] (by exact blk_ok (own := [("row", 4)]) rfl (of_decide_eq_true (Eq.refl true))) sc_law_handedO.nd (mi_any ((me_var 3)).frz) (hv_of rfl) (fun _ _ _ _ _ => (mg_nm 4 sc_law_handedO.nd)) (fun _ _ _ _ _ => ⟨pts_nil, snd_yes⟩) (fun _ _ _ _ _ => ((me_callTy (cr_list rfl) cs_list m.b_list (mas_cons ((me_var 4)).opd mas_nil) PyProof.Rows.boot_list)).frz))).frz)))) mss_nil)
    (mss_one (ms_ret (me_callTy (cr_tuple rfl) cs_tuple m.b_tuple (mas_cons ((me_lcO (X := (cxOf (L2.CX P w) P w K mg base N_law_handedO "_law_handed" (defScope st_law_handedO) fa cdv A outer s H E)) (C := ⟨K, [0, 1], vs, fun c d _ H' => E c d H'⟩) [3] 1 (blk_ok (N := N_law_handedO) (sc := defScope st_law_handedO) (own := [("rows", 3)]) rfl (by decide +kernel)) sc_law_handedO.nd (hv_of rfl) (fun _ _ _ _ _ => (mg_nm 3 sc_law_handedO.nd)) (fun _ _ _ _ _ => ⟨pts_nil, snd_yes⟩) (fun _ _ _ _ _ => ((me_callTy (cr_tuple rfl) cs_tuple m.b_tuple (mas_cons ((me_lc [4] (by exact blk_ok (own := [("row", 4)]) rfl (of_decide_eq_true (Eq.refl true))) sc_law_handedO.nd (mi_any ((me_var 3)).frz) (hv_of rfl) (fun _ _ _ _ _ => (mg_nm 4 sc_law_handedO.nd)) (fun _ _ _ _ _ => ⟨pts_nil, snd_yes⟩) (fun _ _ _ _ _ => ((me_callTy (cr_tuple rfl) cs_tuple m.b_tuple (mas_cons ((me_var 4)).opd mas_nil) PyProof.Rows.boot_tuple)).frz))).opd mas_nil) PyProof.Rows.boot_tuple)).frz))).opd mas_nil) PyProof.Rows.boot_tuple))))))
  exact ⟨_, q.ps, q.sn⟩

/-! ### _law_same -/
abbrev st_law_same : Stmt := topS 27
abbrev N_law_same : List Str := ["found", "due", "one", "other"]
theorem sc_law_same : FnScope N_law_same ["found", "due"] (defScope st_law_same) := ⟨rfl, rfl, rfl, by decide +kernel, rfl, by decide +kernel, by decide +kernel⟩
theorem ok_law_same {P : Program} {w : World} {K : PySem.W.Frag} {mg : Str → Option Value} {base : Heap} {k : Nat} {fa : Addr} {fd : FuncData} (m : Mo K w mg) (hm : mg "_law_same" = some (.ref fa)) (D : Dfn K "_law_same" st_law_same ["found", "due"] [] fa fd)  : ∀ n : Nat, FnG P w K mg base (L2.CX P w) (k + n) fa fd ["found", "due"] (spM K 2 (F_law_same n))
  | 0 => fnG_bad (ps := ["found", "due"])
  | n + 1 => by
    have c_law_same : Cal P w K mg base (L2.CX P w) (k + n) "_law_same" 2 [] (F_law_same n) := (ok_law_same m hm D  n).cal D hm
    exact dfn_ok (N := N_law_same) (own := [0, 1]) (body := B_law_same (F_law_same n)) D sc_law_same fun cdv A outer s H vs E hr hg => by
      have tk : Takes (cxOf (L2.CX P w) P w K mg base N_law_same "_law_same" (defScope st_law_same) fa cdv A outer s H E) (fun c d _ H' => E c d H') := tk_cx
      have px := passX tk
      have q : MSs (cxOf (L2.CX P w) P w K mg base N_law_same "_law_same" (defScope st_law_same) fa cdv A outer s H E) ⟨K, [0, 1], vs, fun c d _ H' => E c d H'⟩ (defBody st_law_same) _ (B_law_same (F_law_same n)) := (mss_cons (ms_if (mt_tru ((me_isi2 "list" "tuple" ((me_var 1)).opd m.b_isinstance m.b_list m.b_tuple)).opd) (mss_cons (ms_if ((mw_or (mt_cmp (g := gNe) (op_neK rfl hr) ops_ne ((me_isi "list" ((me_var 0)).opd m.b_isinstance m.b_list)).opd ((me_isi "list" ((me_var 1)).opd m.b_isinstance m.b_list)).opd) (mw_or1 (mt_cmp (g := gNe) (op_neK rfl hr) ops_ne ((me_isi "tuple" ((me_var 0)).opd m.b_isinstance m.b_tuple)).opd ((me_isi "tuple" ((me_var 1)).opd m.b_isinstance m.b_tuple)).opd)))).toT (mss_one (ms_ret me_bl)) mss_nil)
    (mss_one (ms_ret (me_and ((me_cmp (g := gEq) (op_eqK rfl hr) ops_eq ((me_callB (cr_len rfl) cs_len m.b_len (mas_cons ((me_var 0)).opd mas_nil) PySem.boot_len)).opd ((me_callB (cr_len rfl) cs_len m.b_len (mas_cons ((me_var 1)).opd mas_nil) PySem.boot_len)).opd)).opd (me_one (me_callB (cr_allK rfl rfl) cs_all m.b_all (mas_cons ((me_lc [2, 3] (blk_ok (N := N_law_same) (sc := defScope st_law_same) (own := [("one", 2), ("other", 3)]) rfl (by decide +kernel)) sc_law_same.nd (mi_zip m.b_zip (mds_cons ((me_var 0)).frz (mds_cons ((me_var 1)).frz mds_nil))) (hv_of rfl) (fun _ _ _ _ _ => (mg_tp (mgs_cons (mg_nm 2 sc_law_same.nd) (mgs_cons (mg_nm 3 sc_law_same.nd) mgs_nil)))) (fun _ _ _ _ _ => ⟨pts_nil, snd_yes⟩) (fun _ _ _ _ _ => ((me_call c_law_same hr hg passN (mas_cons ((me_var 2)).opd (mas_cons ((me_var 3)).opd mas_nil)))).frz))).opd mas_nil) PyProof.Rows.boot_all)))))) mss_nil)
    (mss_cons (ms_if ((mw_or (mt_cmp (g := gIsN) (op_isN) ops_isN ((me_var 1)).opd (me_non).opd) (mw_or1 (mt_tru ((me_isi2 "bool" "str" ((me_var 1)).opd m.b_isinstance m.b_bool m.b_str)).opd)))).toT (mss_one (ms_ret (me_and ((me_cmp (g := gEq) (op_eqK rfl hr) ops_eq ((me_var 0)).opd ((me_var 1)).opd)).opd (me_and ((me_cmp (g := gEq) (op_eqK rfl hr) ops_eq ((me_isi "bool" ((me_var 0)).opd m.b_isinstance m.b_bool)).opd ((me_isi "bool" ((me_var 1)).opd m.b_isinstance m.b_bool)).opd)).opd (me_one (me_cmp (g := gEq) (op_eqK rfl hr) ops_eq ((me_cmp (g := gIsN) (op_isN) ops_isN ((me_var 0)).opd (me_non).opd)).opd ((me_cmp (g := gIsN) (op_isN) ops_isN ((me_var 1)).opd (me_non).opd)).opd)))))) mss_nil)
    (mss_one (ms_ret (me_and ((me_isi "int" ((me_var 0)).opd m.b_isinstance m.b_int)).opd (me_and ((me_not ((me_isi "bool" ((me_var 0)).opd m.b_isinstance m.b_bool)).opd)).opd (me_one (me_cmp (g := gEq) (op_eqK rfl hr) ops_eq ((me_var 0)).opd ((me_var 1)).opd))))))))
      exact ⟨_, q.ps, q.sn⟩

/-! ### _law_loose -/
abbrev st_law_loose : Stmt := topS 28
abbrev N_law_loose : List Str := ["plan", "content", "times", "found", "tie", "there", "row", "rows", "place"]
theorem sc_law_loose : FnScope N_law_loose ["plan", "content", "times"] (defScope st_law_loose) := ⟨rfl, rfl, rfl, by decide +kernel, rfl, by decide +kernel, by decide +kernel⟩
def B_law_loose : Sm := (sSeq (sSet 3 (mLst dsNil))
    (sSeq (sFor (mIt (fE (oE (mLc (mIt (fE (oE (mOp gIx (oE (mVar 0)) (oE (mC (.int 1))))))) (.nm 4) [4] (mBl (mOp (bo gIn) (oE (mOp gIx (oE (mVar 4)) (oE (mC (.int 6))))) (oE (mVar 2)))) (fE (oE (mVar 4))))))) (.nm 4) (sSeq (sSet 5 (mLc (mIt (fE (oE (mOp gIx (oE (mVar 1)) (oE (mCall 2 F_law_place (msCons (oE (mOp gIx (oE (mVar 0)) (oE (mC (.int 0))))) (msCons (oE (mOp gIx (oE (mVar 4)) (oE (mC (.int 3))))) msNil)))))))) (.nm 6) [6] mYes (fE (oE (mOp gIx (oE (mVar 6)) (oE (mC (.int 0))))))))
    (sSeq (sUnp (fE (oE (mTup (dsCons (fE (oE (mOp gIx (oE (mVar 1)) (oE (mCall 2 F_law_place (msCons (oE (mOp gIx (oE (mVar 0)) (oE (mC (.int 0))))) (msCons (oE (mOp gIx (oE (mVar 4)) (oE (mC (.int 1))))) msNil))))))) (dsCons (fE (oE (mCall 3 F_law_column (msCons (oE (mOp gIx (oE (mVar 0)) (oE (mC (.int 0))))) (msCons (oE (mOp gIx (oE (mVar 4)) (oE (mC (.int 1))))) (msCons (oE (mOp gIx (oE (mVar 4)) (oE (mC (.int 2))))) msNil)))))) dsNil))))) (.tp [(.nm 7), (.nm 8)]))
    (sExtend 3 (oE (mLc (mIt (fE (oE (mVar 7)))) (.nm 6) [6] (mBl (mOp (bo gNotIn) (oE (mOp gIx (oE (mVar 6)) (oE (mVar 8)))) (oE (mOp gAdd (oE (mVar 5)) (oE (mLst (dsCons (fE (oE (mC .none))) dsNil))))))) (fE (oE (mTup (dsCons (fE (oE (mOp gIx (oE (mVar 4)) (oE (mC (.int 0)))))) (dsCons (fE (oE (mOp gIx (oE (mVar 6)) (oE (mC (.int 0)))))) dsNil)))))))))))
    (sRet (mVar 3))))
def F_law_loose : M RV := fnF [0, 1, 2] 9 (B_law_loose)
theorem ok_law_loose {P : Program} {w : World} {K : PySem.W.Frag} {mg : Str → Option Value} {base : Heap} {k : Nat} {fa : Addr} {fd : FuncData} (m : Mo K w mg) (D : Dfn K "_law_loose" st_law_loose ["plan", "content", "times"] [] fa fd) (c_law_column : Cal P w K mg base (L2.CX P w) k "_law_column" 3 [] F_law_column) (c_law_place : Cal P w K mg base (L2.CX P w) k "_law_place" 2 [] F_law_place) : FnG P w K mg base (L2.CX P w) (k + 1) fa fd ["plan", "content", "times"] (spM K 3 F_law_loose) :=
  dfn_ok (N := N_law_loose) (own := [0, 1, 2]) (body := B_law_loose) D sc_law_loose fun cdv A outer s H vs E hr hg => by
  have tk : Takes (cxOf (L2.CX P w) P w K mg base N_law_loose "_law_loose" (defScope st_law_loose) fa cdv A outer s H E) (fun c d _ H' => E c d H') := tk_cx
  have px := passX tk
  have q : MSs (cxOf (L2.CX P w) P w K mg base N_law_loose "_law_loose" (defScope st_law_loose) fa cdv A outer s H E) ⟨K, [0, 1, 2], vs, fun c d _ H' => E c d H'⟩ (defBody st_law_loose) _ (B_law_loose) := (mss_cons (ms_set 3 sc_law_loose.nd (me_lst (j := 0) mds_nil))
    (mss_cons (ms_for [4] (passes_of rfl) (mi_any ((me_lc [4] (blk_ok (N := N_law_loose) (sc := defScope st_law_loose) (own := [("tie", 4)]) rfl (by decide +kernel)) sc_law_loose.nd (mi_any ((me_ix (op_ixK rfl) ops_ix ((me_var 0)).opd (me_int).opd)).frz) (hv_of rfl) (fun _ _ _ _ _ => (mg_nm 4 sc_law_loose.nd)) (fun _ _ _ _ _ => let q0 := (mt_cmp (g := gIn) (op_inX rfl hr) ops_in ((me_ix (op_ixK rfl) ops_ix ((me_var 4)).opd (me_int).opd)).opd ((me_var 2)).opd); ⟨pts_one q0.pt, q0.sn⟩) (fun _ _ _ _ _ => ((me_var 4)).frz))).frz) (mg_nm 4 sc_law_loose.nd) (mss_cons (ms_set 5 sc_law_loose.nd (me_lc [6] (blk_ok (N := N_law_loose) (sc := defScope st_law_loose) (own := [("row", 6)]) rfl (by decide +kernel)) sc_law_loose.nd (mi_any ((me_ix (op_ixK rfl) ops_ix ((me_var 1)).opd ((me_call c_law_place hr hg px (mas_cons ((me_ix (op_ixK rfl) ops_ix ((me_var 0)).opd (me_int).opd)).opd (mas_cons ((me_ix (op_ixK rfl) ops_ix ((me_var 4)).opd (me_int).opd)).opd mas_nil)))).opd)).frz) (hv_of rfl) (fun _ _ _ _ _ => (mg_nm 6 sc_law_loose.nd)) (fun _ _ _ _ _ => ⟨pts_nil, snd_yes⟩) (fun _ _ _ _ _ => ((me_ix (op_ixK rfl) ops_ix ((me_var 6)).opd (me_int).opd)).frz)))
    (mss_cons (ms_unp [7, 8] ((me_tup (mds_cons ((me_ix (op_ixK rfl) ops_ix ((me_var 1)).opd ((me_call c_law_place hr hg px (mas_cons ((me_ix (op_ixK rfl) ops_ix ((me_var 0)).opd (me_int).opd)).opd (mas_cons ((me_ix (op_ixK rfl) ops_ix ((me_var 4)).opd (me_int).opd)).opd mas_nil)))).opd)).frz (mds_cons ((me_call c_law_column hr hg px (mas_cons ((me_ix (op_ixK rfl) ops_ix ((me_var 0)).opd (me_int).opd)).opd (mas_cons ((me_ix (op_ixK rfl) ops_ix ((me_var 4)).opd (me_int).opd)).opd (mas_cons ((me_ix (op_ixK rfl) ops_ix ((me_var 4)).opd (me_int).opd)).opd mas_nil))))).frz mds_nil)))).frz (mg_tp (mgs_cons (mg_nm 7 sc_law_loose.nd) (mgs_cons (mg_nm 8 sc_law_loose.nd) mgs_nil))))
    (mss_one (ms_extend 3 (mas_cons ((me_lc [6] (blk_ok (N := N_law_loose) (sc := defScope st_law_loose) (own := [("row", 6)]) rfl (by decide +kernel)) sc_law_loose.nd (mi_any ((me_var 7)).frz) (hv_of rfl) (fun _ _ _ _ _ => (mg_nm 6 sc_law_loose.nd)) (fun _ _ _ _ _ => let q0 := (mt_cmp (g := gNotIn) (op_notInX rfl hr) ops_notIn ((me_ix (op_ixK rfl) ops_ix ((me_var 6)).opd ((me_var 8)).opd)).opd ((me_op (op_addX rfl) ops_add ((me_var 5)).opd ((me_lst (j := 0) (mds_cons (me_non).frz mds_nil))).opd)).opd); ⟨pts_one q0.pt, q0.sn⟩) (fun _ _ _ _ _ => ((me_tup (mds_cons ((me_ix (op_ixK rfl) ops_ix ((me_var 4)).opd (me_int).opd)).frz (mds_cons ((me_ix (op_ixK rfl) ops_ix ((me_var 6)).opd (me_int).opd)).frz mds_nil)))).frz))).opd mas_nil) ((me_lc [6] (blk_ok (N := N_law_loose) (sc := defScope st_law_loose) (own := [("row", 6)]) rfl (by decide +kernel)) sc_law_loose.nd (mi_any ((me_var 7)).frz) (hv_of rfl) (fun _ _ _ _ _ => (mg_nm 6 sc_law_loose.nd)) (fun _ _ _ _ _ => let q0 := (mt_cmp (g := gNotIn) (op_notInX rfl hr) ops_notIn ((me_ix (op_ixK rfl) ops_ix ((me_var 6)).opd ((me_var 8)).opd)).opd ((me_op (op_addX rfl) ops_add ((me_var 5)).opd ((me_lst (j := 0) (mds_cons (me_non).frz mds_nil))).opd)).opd); ⟨pts_one q0.pt, q0.sn⟩) (fun _ _ _ _ _ => ((me_tup (mds_cons ((me_ix (op_ixK rfl) ops_ix ((me_var 4)).opd (me_int).opd)).frz (mds_cons ((me_ix (op_ixK rfl) ops_ix ((me_var 6)).opd (me_int).opd)).frz mds_nil)))).frz))).opd)))))
    (mss_one (ms_ret (me_var 3)))))
  exact ⟨_, q.ps, q.sn⟩

/-! ### _law_tied -/
abbrev st_law_tied : Stmt := topS 29
abbrev N_law_tied : List Str := ["plan", "content", "found", "rows", "turn", "tie", "there", "row", "at", "place", "spots", "spot"]
theorem sc_law_tied : FnScope N_law_tied ["plan", "content"] (defScope st_law_tied) := ⟨rfl, rfl, rfl, by decide +kernel, rfl, by decide +kernel, by decide +kernel⟩
def B_law_tied : Sm := (sSeq (sSet 2 (mLc (mIt (fE (oE (mVar 1)))) (.nm 3) [3] mYes (fE (oE (mCallB gList (msCons (oE (mVar 3)) msNil))))))
    (sSeq (sFor (mRng1 (msCons (oE (mC (.int 61))) msNil)) (.nm 4) (sFor (mIt (fE (oE (mOp gIx (oE (mVar 0)) (oE (mC (.int 1))))))) (.nm 5) (sSeq (sSet 6 (mOp gAdd (oE (mLc (mIt (fE (oE (mOp gIx (oE (mVar 2)) (oE (mCall 2 F_law_place (msCons (oE (mOp gIx (oE (mVar 0)) (oE (mC (.int 0))))) (msCons (oE (mOp gIx (oE (mVar 5)) (oE (mC (.int 3))))) msNil)))))))) (.nm 7) [7] mYes (fE (oE (mOp gIx (oE (mVar 7)) (oE (mC (.int 0)))))))) (oE (mLst (dsCons (fE (oE (mC .none))) dsNil)))))
    (sSeq (sUnp (fE (oE (mTup (dsCons (fE (oE (mCall 2 F_law_place (msCons (oE (mOp gIx (oE (mVar 0)) (oE (mC (.int 0))))) (msCons (oE (mOp gIx (oE (mVar 5)) (oE (mC (.int 1))))) msNil))))) (dsCons (fE (oE (mCall 3 F_law_column (msCons (oE (mOp gIx (oE (mVar 0)) (oE (mC (.int 0))))) (msCons (oE (mOp gIx (oE (mVar 5)) (oE (mC (.int 1))))) (msCons (oE (mOp gIx (oE (mVar 5)) (oE (mC (.int 2))))) msNil)))))) dsNil))))) (.tp [(.nm 8), (.nm 9)]))
    (sIf (mBl (mOp (bo gEq) (oE (mVar 9)) (oE (mC (.int 0))))) (sSetItem 2 (oE (mVar 8)) (fE (oE (mLc (mIt (fE (oE (mOp gIx (oE (mVar 2)) (oE (mVar 8)))))) (.nm 7) [7] (mBl (mOp (bo gIn) (oE (mOp gIx (oE (mVar 7)) (oE (mC (.int 0))))) (oE (mVar 6)))) (fE (oE (mVar 7))))))) (sSeq (sSet 10 (mLc (mIt (fE (oE (mOp gIx (oE (mVar 2)) (oE (mVar 8)))))) (.nm 7) [7] mYes (fE (oE (mOp gMul (oE (mVar 9)) (oE (mCallB gInt (msCons (oE (mOp (bo gNotIn) (oE (mOp gIx (oE (mVar 7)) (oE (mVar 9)))) (oE (mVar 6)))) msNil))))))))
    (sSeq (sSet 3 (mListZip (dsCons (fE (oE (mOp gIx (oE (mVar 2)) (oE (mVar 8))))) (dsCons (fE (oE (mVar 10))) dsNil))))
    (sSetItem 2 (oE (mVar 8)) (fE (oE (mLc (mIt (fE (oE (mVar 3)))) (.tp [(.nm 7), (.nm 11)]) [7, 11] mYes (fE (oE (mIfE (mBl (mOp (bo gGt) (oE (mVar 11)) (oE (mC (.int 0))))) (mOp gAdd (oE (mOp gAdd (oE (mSl gSl (oE (mVar 7)) mNoPart (mPart (oE (mVar 11))))) (oE (mTup (dsCons (fE (oE (mC .none))) dsNil))))) (oE (mSl gSl (oE (mVar 7)) (mPart (oE (mOp gAdd (oE (mVar 11)) (oE (mC (.int 1)))))) mNoPart))) (mVar 7)))))))))))))))
    (sRet (mVar 2))))
def F_law_tied : M RV := fnF [0, 1] 12 (B_law_tied)
theorem ok_law_tied {P : Program} {w : World} {K : PySem.W.Frag} {mg : Str → Option Value} {base : Heap} {k : Nat} {fa : Addr} {fd : FuncData} (m : Mo K w mg) (D : Dfn K "_law_tied" st_law_tied ["plan", "content"] [] fa fd) (c_law_column : Cal P w K mg base (L2.CX P w) k "_law_column" 3 [] F_law_column) (c_law_place : Cal P w K mg base (L2.CX P w) k "_law_place" 2 [] F_law_place) : FnG P w K mg base (L2.CX P w) (k + 1) fa fd ["plan", "content"] (spM K 2 F_law_tied) :=
  dfn_ok (N := N_law_tied) (own := [0, 1]) (body := B_law_tied) D sc_law_tied fun cdv A outer s H vs E hr hg => by
  have tk : Takes (cxOf (L2.CX P w) P w K mg base N_law_tied "_law_tied" (defScope st_law_tied) fa cdv A outer s H E) (fun c d _ H' => E c d H') := tk_cx
  have px := passX tk
  have q : MSs (cxOf (L2.CX P w) P w K mg base N_law_tied "_law_tied" (defScope st_law_tied) fa cdv A outer s H E) ⟨K, [0, 1], vs, fun c d _ H' => E c d H'⟩ (defBody st_law_tied) _ (B_law_tied) := (mss_cons (ms_setLc 2 [3] (blk_ok (N := N_law_tied) (sc := defScope st_law_tied) (own := [("rows", 3)]) rfl (by decide +kernel)) sc_law_tied.nd (mi_any ((me_var 1)).frz) (hv_of rfl) (fun _ _ _ _ _ => (mg_nm 3 sc_law_tied.nd)) (fun _ _ _ _ _ => ⟨pts_nil, snd_yes⟩) (fun _ _ _ _ _ => ((me_callTy (cr_list rfl) cs_list m.b_list (mas_cons ((me_var 3)).opd mas_nil) PyProof.Rows.boot_list)).frz))
    (mss_cons (ms_for [4] (passes_of rfl) (mi_rng1 m.b_range (mas_cons (me_int).opd mas_nil)) (mg_nm 4 sc_law_tied.nd) (mss_one (ms_for [5] (passes_of rfl) (mi_any ((me_ix (op_ixK rfl) ops_ix ((me_var 0)).opd (me_int).opd)).frz) (mg_nm 5 sc_law_tied.nd) (mss_cons (ms_set 6 sc_law_tied.nd (me_op (op_addX rfl) ops_add ((me_lc [7] (blk_ok (N := N_law_tied) (sc := defScope st_law_tied) (own := [("row", 7)]) rfl (by decide +kernel)) sc_law_tied.nd (mi_any ((me_ix (op_ixK rfl) ops_ix ((me_var 2)).opd ((me_call c_law_place hr hg px (mas_cons ((me_ix (op_ixK rfl) ops_ix ((me_var 0)).opd (me_int).opd)).opd (mas_cons ((me_ix (op_ixK rfl) ops_ix ((me_var 5)).opd (me_int).opd)).opd mas_nil)))).opd)).frz) (hv_of rfl) (fun _ _ _ _ _ => (mg_nm 7 sc_law_tied.nd)) (fun _ _ _ _ _ => ⟨pts_nil, snd_yes⟩) (fun _ _ _ _ _ => ((me_ix (op_ixK rfl) ops_ix ((me_var 7)).opd (me_int).opd)).frz))).opd ((me_lst (j := 0) (mds_cons (me_non).frz mds_nil))).opd))
    (mss_cons (ms_unp [8, 9] ((me_tup (mds_cons ((me_call c_law_place hr hg px (mas_cons ((me_ix (op_ixK rfl) ops_ix ((me_var 0)).opd (me_int).opd)).opd (mas_cons ((me_ix (op_ixK rfl) ops_ix ((me_var 5)).opd (me_int).opd)).opd mas_nil)))).frz (mds_cons ((me_call c_law_column hr hg px (mas_cons ((me_ix (op_ixK rfl) ops_ix ((me_var 0)).opd (me_int).opd)).opd (mas_cons ((me_ix (op_ixK rfl) ops_ix ((me_var 5)).opd (me_int).opd)).opd (mas_cons ((me_ix (op_ixK rfl) ops_ix ((me_var 5)).opd (me_int).opd)).opd mas_nil))))).frz mds_nil)))).frz (mg_tp (mgs_cons (mg_nm 8 sc_law_tied.nd) (mgs_cons (mg_nm 9 sc_law_tied.nd) mgs_nil))))
    (mss_one (ms_if (mt_cmp (g := gEq) (op_eqK rfl hr) ops_eq ((me_var 9)).opd (me_int).opd) (mss_one (ms_setItem 2 ((me_lc [7] (blk_ok (N := N_law_tied) (sc := defScope st_law_tied) (own := [("row", 7)]) rfl (by decide +kernel)) sc_law_tied.nd (mi_any ((me_ix (op_ixK rfl) ops_ix ((me_var 2)).opd ((me_var 8)).opd)).frz) (hv_of rfl) (fun _ _ _ _ _ => (mg_nm 7 sc_law_tied.nd)) (fun _ _ _ _ _ => let q0 := (mt_cmp (g := gIn) (op_inX rfl hr) ops_in ((me_ix (op_ixK rfl) ops_ix ((me_var 7)).opd (me_int).opd)).opd ((me_var 6)).opd); ⟨pts_one q0.pt, q0.sn⟩) (fun _ _ _ _ _ => ((me_var 7)).frz))).frz ((me_var 8)).opd)) (mss_cons (ms_setLc 10 [7] (blk_ok (N := N_law_tied) (sc := defScope st_law_tied) (own := [("row", 7)]) rfl (by decide +kernel)) sc_law_tied.nd (mi_any ((me_ix (op_ixK rfl) ops_ix ((me_var 2)).opd ((me_var 8)).opd)).frz) (hv_of rfl) (fun _ _ _ _ _ => (mg_nm 7 sc_law_tied.nd)) (fun _ _ _ _ _ => ⟨pts_nil, snd_yes⟩) (fun _ _ _ _ _ => ((me_op (op_mulXX) ops_mul ((me_var 9)).opd ((me_callTy (call_int1) cs_int m.b_int (mas_cons ((me_cmp (g := gNotIn) (op_notInX rfl hr) ops_notIn ((me_ix (op_ixK rfl) ops_ix ((me_var 7)).opd ((me_var 9)).opd)).opd ((me_var 6)).opd)).opd mas_nil) PyProof.Rows.boot_int)).opd)).frz))
    (mss_cons (ms_set 3 sc_law_tied.nd (me_listZip m.b_list m.b_zip (mds_cons ((me_ix (op_ixK rfl) ops_ix ((me_var 2)).opd ((me_var 8)).opd)).frz (mds_cons ((me_var 10)).frz mds_nil))))
    (mss_one (ms_setItem 2 ((me_lc [7, 11] (blk_ok (N := N_law_tied) (sc := defScope st_law_tied) (own := [("row", 7), ("spot", 11)]) rfl (by decide +kernel)) sc_law_tied.nd (mi_any ((me_var 3)).frz) (hv_of rfl) (fun _ _ _ _ _ => (mg_tp (mgs_cons (mg_nm 7 sc_law_tied.nd) (mgs_cons (mg_nm 11 sc_law_tied.nd) mgs_nil)))) (fun _ _ _ _ _ => ⟨pts_nil, snd_yes⟩) (fun _ _ _ _ _ => ((me_ifE (mt_cmp (g := gGt) (op_gt) ops_gI ((me_var 11)).opd (me_int).opd) (me_op (op_addX rfl) ops_add ((me_op (op_addX rfl) ops_add ((me_sl (sl_X rfl) sls_X ((me_var 7)).opd mpo_none (mpo_some ((me_var 11)).opd))).opd ((me_tup (mds_cons (me_non).frz mds_nil))).opd)).opd ((me_sl (sl_X rfl) sls_X ((me_var 7)).opd (mpo_some ((me_op (op_addX rfl) ops_add ((me_var 11)).opd (me_int).opd)).opd) mpo_none)).opd) (me_var 7))).frz))).frz ((me_var 8)).opd)))))))))))
    (mss_one (ms_ret (me_var 2)))))
  exact ⟨_, q.ps, q.sn⟩

/-! ### _law_told_right -/
abbrev st_law_told_right : Stmt := topS 30
abbrev N_law_told_right : List Str := ["plan", "content", "handed", "turn", "late", "times", "found", "due", "every", "told", "fine"]
theorem sc_law_told_right : FnScope N_law_told_right ["plan", "content", "handed"] (defScope st_law_told_right) := ⟨rfl, rfl, rfl, by decide +kernel, rfl, by decide +kernel, by decide +kernel⟩
def B_law_told_right : Sm := (sSeq (sFor (mRng1 (msCons (oE (mC (.int 2))) msNil)) (.nm 3) (sFor (mIt (fE (oE (mTup (dsCons (fE (oE (mTup (dsCons (fE (oE (mC .none))) (dsCons (fE (oE (mTup (dsCons (fE (oE (mC (.str "once")))) (dsCons (fE (oE (mC (.str "end")))) dsNil))))) dsNil))))) (dsCons (fE (oE (mTup (dsCons (fE (oE (mC (.str "once")))) (dsCons (fE (oE (mTup (dsCons (fE (oE (mC (.str "once")))) dsNil)))) dsNil))))) (dsCons (fE (oE (mTup (dsCons (fE (oE (mC (.str "end")))) (dsCons (fE (oE (mTup (dsCons (fE (oE (mC (.str "end")))) dsNil)))) dsNil))))) dsNil))))))) (.tp [(.nm 4), (.nm 5)]) (sSeq (sPar [6, 7] (msCons (mCall (2 + (["when"] : List Str).length) F_loose (msCat 2 (["when"] : List Str).length (msCons (oE (mVar 0)) (msCons (oE (mVar 2)) msNil)) (msCons (oE (mVar 4)) msNil))) (msCons (mCall 3 F_law_loose (msCons (oE (mVar 0)) (msCons (oE (mVar 1)) (msCons (oE (mVar 5)) msNil)))) msNil)))
    (sSeq (sIf (mNot (mTru (oE (mCallV 2 (F_law_same 12) (msCons (oE (mVar 6)) (msCons (oE (mVar 7)) msNil)))))) (sRet (mC (.bool false))) sNext)
    (sAppend 6 (fE (oE (mTup (dsCons (fE (oE (mC (.str "")))) (dsCons (fE (oE (mC (.int 0)))) dsNil))))))))))
    (sSeq (sSet 8 (mCall 3 F_loose (msAppN (msCons (oE (mVar 0)) (msCons (oE (mVar 2)) msNil)))))
    (sSeq (sSet 9 (mCall 2 F_holds (msCons (oE (mVar 0)) (msCons (oE (mVar 2)) msNil))))
    (sSeq (sSet 10 (mAndV (oE (mIsi "bool" (oE (mVar 9)))) (mOp (bo gEq) (oE (mVar 9)) (oE (mOp (bo gEq) (oE (mVar 8)) (oE (mLst dsNil)))))))
    (sRet (mAndV (oE (mVar 10)) (mCallV 2 (F_law_same 12) (msCons (oE (mVar 8)) (msCons (oE (mCall 3 F_law_loose (msCons (oE (mVar 0)) (msCons (oE (mVar 1)) (msCons (oE (mTup (dsCons (fE (oE (mC (.str "once")))) (dsCons (fE (oE (mC (.str "end")))) dsNil)))) msNil))))) msNil)))))))))
def F_law_told_right : M RV := fnF [0, 1, 2] 11 (B_law_told_right)
theorem ok_law_told_right {P : Program} {w : World} {K : PySem.W.Frag} {mg : Str → Option Value} {base : Heap} {k : Nat} {fa : Addr} {fd : FuncData} (m : Mo K w mg) (D : Dfn K "_law_told_right" st_law_told_right ["plan", "content", "handed"] [] fa fd) (c_law_same : Cal P w K mg base (L2.CX P w) k "_law_same" 2 [] (F_law_same 12)) (c_law_loose : Cal P w K mg base (L2.CX P w) k "_law_loose" 3 [] F_law_loose) (c_holds : Cal P w K mg base (L2.CX P w) k "holds" 2 [] F_holds) (d_loose : Cal P w K mg base (L2.CX P w) k "loose" 3 [.non] F_loose) (k_loose : CalK P w K mg base (L2.CX P w) k "loose" 2 ["when"] F_loose) : FnG P w K mg base (L2.CX P w) (k + 1) fa fd ["plan", "content", "handed"] (spM K 3 F_law_told_right) :=
  dfn_ok (N := N_law_told_right) (own := [0, 1, 2]) (body := B_law_told_right) D sc_law_told_right fun cdv A outer s H vs E hr hg => by
  have tk : Takes (cxOf (L2.CX P w) P w K mg base N_law_told_right "_law_told_right" (defScope st_law_told_right) fa cdv A outer s H E) (fun c d _ H' => E c d H') := tk_cx
  have px := passX tk
  have q : MSs (cxOf (L2.CX P w) P w K mg base N_law_told_right "_law_told_right" (defScope st_law_told_right) fa cdv A outer s H E) ⟨K, [0, 1, 2], vs, fun c d _ H' => E c d H'⟩ (defBody st_law_told_right) _ (B_law_told_right) := (mss_cons (ms_for [3] (passes_of rfl) (mi_rng1 m.b_range (mas_cons (me_int).opd mas_nil)) (mg_nm 3 sc_law_told_right.nd) (mss_one (ms_for [4, 5] (passes_of rfl) (mi_any ((me_tup (mds_cons ((me_tup (mds_cons (me_non).frz (mds_cons ((me_tup (mds_cons (me_str).frz (mds_cons (me_str).frz mds_nil)))).frz mds_nil)))).frz (mds_cons ((me_tup (mds_cons (me_str).frz (mds_cons ((me_tup (mds_cons (me_str).frz mds_nil))).frz mds_nil)))).frz (mds_cons ((me_tup (mds_cons (me_str).frz (mds_cons ((me_tup (mds_cons (me_str).frz mds_nil))).frz mds_nil)))).frz mds_nil))))).frz) (mg_tp (mgs_cons (mg_nm 4 sc_law_told_right.nd) (mgs_cons (mg_nm 5 sc_law_told_right.nd) mgs_nil))) (mss_cons (ms_par2 6 7 sc_law_told_right.nd (mrs_cons (me_callK k_loose hr hg px (mas_cons ((me_var 0)).opd (mas_cons ((me_var 2)).opd mas_nil)) (mkw_cons ((me_var 4)).opd mkw_nil)) (mrs_cons (me_call c_law_loose hr hg px (mas_cons ((me_var 0)).opd (mas_cons ((me_var 1)).opd (mas_cons ((me_var 5)).opd mas_nil)))) mrs_nil)))
    (mss_cons (ms_if (mt_not (mt_tru ((me_callV c_law_same hr hg px (mas_cons ((me_var 6)).opd (mas_cons ((me_var 7)).opd mas_nil)))).opd)) (mss_one (ms_ret me_bl)) mss_nil)
    (mss_one (ms_append 6 (mds_cons ((me_tup (mds_cons (me_str).frz (mds_cons (me_int).frz mds_nil)))).frz mds_nil) ((me_tup (mds_cons (me_str).frz (mds_cons (me_int).frz mds_nil)))).frz)))))))
    (mss_cons (ms_set 8 sc_law_told_right.nd (me_callN d_loose hr hg px (mas_cons ((me_var 0)).opd (mas_cons ((me_var 2)).opd mas_nil))))
    (mss_cons (ms_set 9 sc_law_told_right.nd (me_call c_holds hr hg px (mas_cons ((me_var 0)).opd (mas_cons ((me_var 2)).opd mas_nil))))
    (mss_cons (ms_set 10 sc_law_told_right.nd (me_and ((me_isi "bool" ((me_var 9)).opd m.b_isinstance m.b_bool)).opd (me_one (me_cmp (g := gEq) (op_eqK rfl hr) ops_eq ((me_var 9)).opd ((me_cmp (g := gEq) (op_eqK rfl hr) ops_eq ((me_var 8)).opd ((me_lst (j := 0) mds_nil)).opd)).opd))))
    (mss_one (ms_ret (me_and ((me_var 10)).opd (me_one (me_callV c_law_same hr hg px (mas_cons ((me_var 8)).opd (mas_cons ((me_call c_law_loose hr hg px (mas_cons ((me_var 0)).opd (mas_cons ((me_var 1)).opd (mas_cons ((me_tup (mds_cons (me_str).frz (mds_cons (me_str).frz mds_nil)))).opd mas_nil))))).opd mas_nil)))))))))))
  exact ⟨_, q.ps, q.sn⟩

/-! ### _law_right -/
abbrev st_law_right : Stmt := topS 31
abbrev N_law_right : List Str := ["box", "tables", "plan", "content", "turn", "handed", "kept", "at", "spot"]
theorem sc_law_right : FnScope N_law_right ["box"] (defScope st_law_right) := ⟨rfl, rfl, rfl, by decide +kernel, rfl, by decide +kernel, by decide +kernel⟩
def B_law_right : Sm := (sSeq (sSet 1 (mCall 2 F_law_tables (msCons (oE (mVar 0)) (msCons (oE (mC (.int 5))) msNil))))
    (sSeq (sSet 2 (mTup (dsCons (fE (oE (mVar 1))) (dsCons (fE (oE (mCall 3 F_law_ties (msCons (oE (mVar 0)) (msCons (oE (mVar 1)) (msCons (oE (mC (.int 10))) msNil)))))) (dsCons (fE (oE (mTup dsNil))) dsNil)))))
    (sSeq (sSet 3 (mCall 4 F_law_content (msCons (oE (mVar 0)) (msCons (oE (mVar 1)) (msCons (oE (mOp gIx (oE (mVar 2)) (oE (mC (.int 1))))) (msCons (oE (mC (.int 9))) msNil))))))
    (sSeq (sIf (mBl (mOp (bo gEq) (oE (mCall 2 F_law_take (msCons (oE (mVar 0)) (msCons (oE (mC (.int 2))) msNil)))) (oE (mC (.int 0))))) (sSet 3 (mCall 2 F_law_tied (msCons (oE (mVar 2)) (msCons (oE (mVar 3)) msNil)))) sNext)
    (sSeq (sFor (mRng1 (msCons (oE (mC (.int 4))) msNil)) (.nm 4) (sSeq (sSet 5 (mCall 2 F_law_handedO (msCons (oE (mVar 0)) (msCons (oE (mVar 3)) msNil))))
    (sSeq (sSet 6 (mCallB gRepr (msCons (oE (mLst (dsCons (fE (oE (mVar 2))) (dsCons (fE (oE (mVar 5))) dsNil)))) msNil)))
    (sSeq (sIf (mOr (mNot (mTru (oE (mCall 3 F_law_told_right (msCons (oE (mVar 2)) (msCons (oE (mVar 3)) (msCons (oE (mVar 5)) msNil))))))) (mBl (mOp (bo gNe) (oE (mCallB gRepr (msCons (oE (mLst (dsCons (fE (oE (mVar 2))) (dsCons (fE (oE (mVar 5))) dsNil)))) msNil))) (oE (mVar 6))))) (sRet (mC (.bool false))) sNext)
    (sSeq (sSet 7 (mCall 2 F_law_take (msCons (oE (mVar 0)) (msCons (oE (mCallB gLen (msCons (oE (mVar 3)) msNil))) msNil))))
    (sSeq (sSet 8 (mCall 2 F_law_take (msCons (oE (mVar 0)) (msCons (oE (mOp gAdd (oE (mCallB gLen (msCons (oE (mOp gIx (oE (mVar 3)) (oE (mVar 7)))) msNil))) (oE (mC (.int 1))))) msNil))))
    (sSetItem 3 (oE (mVar 7)) (fE (oE (mOp gAdd (oE (mSl gSl (oE (mOp gIx (oE (mVar 3)) (oE (mVar 7)))) mNoPart (mPart (oE (mVar 8))))) (oE (mSl gSl (oE (mOp gIx (oE (mVar 3)) (oE (mVar 7)))) (mPart (oE (mOp gAdd (oE (mVar 8)) (oE (mC (.int 1)))))) mNoPart))))))))))))
    (sRet (mC (.bool true))))))))
def F_law_right : M RV := fnF [0] 9 (B_law_right)
theorem ok_law_right {P : Program} {w : World} {K : PySem.W.Frag} {mg : Str → Option Value} {base : Heap} {k : Nat} {fa : Addr} {fd : FuncData} (m : Mo K w mg) (D : Dfn K "_law_right" st_law_right ["box"] [] fa fd) (c_law_take : Cal P w K mg base (L2.CX P w) k "_law_take" 2 [] F_law_take) (c_law_told_right : Cal P w K mg base (L2.CX P w) k "_law_told_right" 3 [] F_law_told_right) (c_law_handedO : Cal P w K mg base (L2.CX P w) k "_law_handed" 2 [] F_law_handedO) (c_law_tied : Cal P w K mg base (L2.CX P w) k "_law_tied" 2 [] F_law_tied) (c_law_content : Cal P w K mg base (L2.CX P w) k "_law_content" 4 [] F_law_content) (c_law_ties : Cal P w K mg base (L2.CX P w) k "_law_ties" 3 [] F_law_ties) (c_law_tables : Cal P w K mg base (L2.CX P w) k "_law_tables" 2 [] F_law_tables) : FnG P w K mg base (L2.CX P w) (k + 1) fa fd ["box"] (spM K 1 F_law_right) :=
  dfn_ok (N := N_law_right) (own := [0]) (body := B_law_right) D sc_law_right fun cdv A outer s H vs E hr hg => by
  have tk : Takes (cxOf (L2.CX P w) P w K mg base N_law_right "_law_right" (defScope st_law_right) fa cdv A outer s H E) (fun c d _ H' => E c d H') := tk_cx
  have px := passX tk
  have q : MSs (cxOf (L2.CX P w) P w K mg base N_law_right "_law_right" (defScope st_law_right) fa cdv A outer s H E) ⟨K, [0], vs, fun c d _ H' => E c d H'⟩ (defBody st_law_right) _ (B_law_right) := (mss_cons (ms_set 1 sc_law_right.nd (me_call c_law_tables hr hg px (mas_cons ((me_var 0)).opd (mas_cons (me_int).opd mas_nil))))
    (mss_cons (ms_set 2 sc_law_right.nd (me_tup (mds_cons ((me_var 1)).frz (mds_cons ((me_call c_law_ties hr hg px (mas_cons ((me_var 0)).opd (mas_cons ((me_var 1)).opd (mas_cons (me_int).opd mas_nil))))).frz (mds_cons ((me_tup mds_nil)).frz mds_nil)))))
    (mss_cons (ms_set 3 sc_law_right.nd (me_call c_law_content hr hg px (mas_cons ((me_var 0)).opd (mas_cons ((me_var 1)).opd (mas_cons ((me_ix (op_ixK rfl) ops_ix ((me_var 2)).opd (me_int).opd)).opd (mas_cons (me_int).opd mas_nil))))))
    (mss_cons (ms_if (mt_cmp (g := gEq) (op_eqK rfl hr) ops_eq ((me_call c_law_take hr hg px (mas_cons ((me_var 0)).opd (mas_cons (me_int).opd mas_nil)))).opd (me_int).opd) (mss_one (ms_set 3 sc_law_right.nd (me_call c_law_tied hr hg px (mas_cons ((me_var 2)).opd (mas_cons ((me_var 3)).opd mas_nil))))) mss_nil)
    (mss_cons (ms_for [4] (passes_of rfl) (mi_rng1 m.b_range (mas_cons (me_int).opd mas_nil)) (mg_nm 4 sc_law_right.nd) (mss_cons (ms_set 5 sc_law_right.nd (me_call c_law_handedO hr hg px (mas_cons ((me_var 0)).opd (mas_cons ((me_var 3)).opd mas_nil))))
    (mss_cons (ms_set 6 sc_law_right.nd (me_callB (cr_repr rfl hr hg) cs_repr m.b_repr (mas_cons ((me_lst (j := 0) (mds_cons ((me_var 2)).frz (mds_cons ((me_var 5)).frz mds_nil)))).opd mas_nil) PyProof.Rows.boot_repr))
    (mss_cons (ms_if ((mw_or (mt_not (mt_tru ((me_call c_law_told_right hr hg px (mas_cons ((me_var 2)).opd (mas_cons ((me_var 3)).opd (mas_cons ((me_var 5)).opd mas_nil))))).opd)) (mw_or1 (mt_cmp (g := gNe) (op_neK rfl hr) ops_ne ((me_callB (cr_repr rfl hr hg) cs_repr m.b_repr (mas_cons ((me_lst (j := 0) (mds_cons ((me_var 2)).frz (mds_cons ((me_var 5)).frz mds_nil)))).opd mas_nil) PyProof.Rows.boot_repr)).opd ((me_var 6)).opd)))).toT (mss_one (ms_ret me_bl)) mss_nil)
    (mss_cons (ms_set 7 sc_law_right.nd (me_call c_law_take hr hg px (mas_cons ((me_var 0)).opd (mas_cons ((me_callB (cr_len rfl) cs_len m.b_len (mas_cons ((me_var 3)).opd mas_nil) PySem.boot_len)).opd mas_nil))))
    (mss_cons (ms_set 8 sc_law_right.nd (me_call c_law_take hr hg px (mas_cons ((me_var 0)).opd (mas_cons ((me_op (op_addX rfl) ops_add ((me_callB (cr_len rfl) cs_len m.b_len (mas_cons ((me_ix (op_ixK rfl) ops_ix ((me_var 3)).opd ((me_var 7)).opd)).opd mas_nil) PySem.boot_len)).opd (me_int).opd)).opd mas_nil))))
    (mss_one (ms_setItem 3 ((me_op (op_addX rfl) ops_add ((me_sl (sl_X rfl) sls_X ((me_ix (op_ixK rfl) ops_ix ((me_var 3)).opd ((me_var 7)).opd)).opd mpo_none (mpo_some ((me_var 8)).opd))).opd ((me_sl (sl_X rfl) sls_X ((me_ix (op_ixK rfl) ops_ix ((me_var 3)).opd ((me_var 7)).opd)).opd (mpo_some ((me_op (op_addX rfl) ops_add ((me_var 8)).opd (me_int).opd)).opd) mpo_none)).opd)).frz ((me_var 7)).opd))))))))
    (mss_one (ms_ret me_bl)))))))
  exact ⟨_, q.ps, q.sn⟩

/-! ### law -/
abbrev st_law : Stmt := topS 32
abbrev N_law : List Str := ["script", "k"]
theorem sc_law : FnScope N_law ["script"] (defScope st_law) := ⟨rfl, rfl, rfl, by decide +kernel, rfl, by decide +kernel, by decide +kernel⟩
def B_law : Sm := (sRet (mCallB gAll (msCons (oE (mLc (mRng1 (msCons (oE (mOp gAdd (oE (mC (.int 1))) (oE (mCallB gMin (msCons (oE (mC (.int 4))) (msCons (oE (mScrLen 0)) msNil)))))) msNil)) (.nm 1) [1] mYes (fE (oE (mCall1N F_law_right (mCall 2 F_law_box (msCons (oE (mVar 0)) (msCons (oE (mVar 1)) msNil)))))))) msNil)))
def F_law : M RV := fnF [0] 2 (B_law)
theorem ok_law {P : Program} {w : World} {K : PySem.W.Frag} {mg : Str → Option Value} {base : Heap} {k : Nat} {fa : Addr} {fd : FuncData} (m : Mo K w mg) (D : Dfn K "law" st_law ["script"] [] fa fd) (c_law_right : Cal P w K mg base (L2.CX P w) k "_law_right" 1 [] F_law_right) (c_law_box : Cal P w K mg base (L2.CX P w) k "_law_box" 2 [] F_law_box) : FnG P w K mg base (L2.CX P w) (k + 1) fa fd ["script"] (spM K 1 F_law) :=
  dfn_ok (N := N_law) (own := [0]) (body := B_law) D sc_law fun cdv A outer s H vs E hr hg => by
  have tk : Takes (cxOf (L2.CX P w) P w K mg base N_law "law" (defScope st_law) fa cdv A outer s H E) (fun c d _ H' => E c d H') := tk_cx
  have px := passX tk
  have q : MSs (cxOf (L2.CX P w) P w K mg base N_law "law" (defScope st_law) fa cdv A outer s H E) ⟨K, [0], vs, fun c d _ H' => E c d H'⟩ (defBody st_law) _ (B_law) := (mss_one (ms_ret (me_callB (cr_allK rfl rfl) cs_all m.b_all (mas_cons ((me_lc [1] (blk_ok (N := N_law) (sc := defScope st_law) (own := [("k", 1)]) rfl (by decide +kernel)) sc_law.nd (mi_rng1 m.b_range (mas_cons ((me_op (op_addX rfl) ops_add (me_int).opd ((me_callB (call_min2 rfl) cs_min m.b_min (mas_cons (me_int).opd (mas_cons ((me_scrLen 0 m.b_len)).opd mas_nil)) PyProof.Rows.boot_min)).opd)).opd mas_nil)) (hv_of rfl) (fun _ _ _ _ _ => (mg_nm 1 sc_law.nd)) (fun _ _ _ _ _ => ⟨pts_nil, snd_yes⟩) (fun _ _ _ _ _ => ((me_call1N c_law_right hr hg passN (me_call c_law_box hr hg passN (mas_cons ((me_var 0)).opd (mas_cons ((me_var 1)).opd mas_nil))))).frz))).opd mas_nil) PyProof.Rows.boot_all)))
  exact ⟨_, q.ps, q.sn⟩
end GC

namespace GC
open PySem PySem.Spec L2 M3 M4 M5
open PyProof.Rows hiding St
/-- the rows that lean by a tie's column on what isn't there -/
def lsX (rs rs2 : List RX) (j : Nat) : List RX := rs.filter fun r => !isNoneD (cellJ r j) && !(rs2.any fun q => wEq (.int q.1) (cellJ r j))
def keyX (rs2 : List RX) : List (Key × D) := rs2.foldl (fun a r => putD a (.inl r.1) (.bool true)) []
theorem keyX_in (rs2 : List RX) {c : D} (hc : Wd c) (nz : isNoneD c = false) : ∃ k, keyD c = some k ∧ (valD (keyX rs2) k).isSome = rs2.any fun q => wEq (.int q.1) c := by
  rcases hc with rfl | ⟨i, rfl, _, _⟩
  · cases nz
  · refine ⟨.inl i, rfl, ?_⟩
    have := valD_fold (fun r : RX => (Sum.inl r.1 : Key)) (fun _ => PyData.bool true) (.inl i) rs2 []
    unfold keyX
    rw [this]
    have e : ∀ q : RX, decide ((Sum.inl q.1 : Key) = .inl i) = wEq (.int q.1) (.int i) := fun q => by
      unfold wEq
      by_cases h : q.1 = i
      · simp [h]
      · simp [h]
    rw [show (fun x : RX => decide ((Sum.inl x.1 : Key) = .inl i)) = fun q => wEq (.int q.1) (.int i) from funext e]
    simp [valD]
section
variable {ts : List M5.TT} (hT : GoodT ts) {ys : List TY} {ct : List (List RX)} (hC : CtOk ts ct) {HD : D} {rg : RX → D} (hd : HdOk ts HD rg ct)
  {y : TY} {k j k2 : Nat} {rs rs2 : List RX} (A : At ts ct y k j k2 rs rs2)
include hT hC hd A
theorem e_loby : F_loose_by [some (.fro (plD ts ys)), some (.fro HD), some (.fro (tieD y))] = .ok (.new (.lst ((lsX rs rs2 j).map fun r => .int r.1))) [some (.fro (plD ts ys)), some (.fro HD), some (.fro (tieD y))] := by
  have g0 := (plD_pl ts ys).g0
  have g1 : gIx (tieD y) (.int 1) = some (.val (dL y.t.1)) := by simp [tieD, gIx, atI, ixN]
  have g2 : gIx (tieD y) (.int 2) = some (.val (dL y.c.1)) := by simp [tieD, gIx, atI, ixN]
  have g3 : gIx (tieD y) (.int 3) = some (.val (dL y.o.1)) := by simp [tieD, gIx, atI, ixN]
  have ec : F_column_place [fT ts, some (.fro (dL y.t.1)), some (.fro (dL y.c.1))] = .ok (.fro (.int (j : Int))) [fT ts, some (.fro (dL y.t.1)), some (.fro (dL y.c.1))] := e_cp hT A.t A.c
  obtain ⟨R, hi, er⟩ := e_rows hT hC hd A.t A.r
  have er : F_rows_of [fT ts, some (.fro HD), some (.fro (dL y.t.1))] = .ok (.fro R) [fT ts, some (.fro HD), some (.fro (dL y.t.1))] := er
  obtain ⟨R2, hi2, er2⟩ := e_rows hT hC hd A.o A.r2
  have er2 : F_rows_of [fT ts, some (.fro HD), some (.fro (dL y.o.1))] = .ok (.fro R2) [fT ts, some (.fro HD), some (.fro (dL y.o.1))] := er2
  have ro := hC.g k _ _ A.t A.r
  have ro2 := hC.g k2 _ _ A.o A.r2
  have jl := lt_get A.c
  have z0 : ∀ r : RX, gIx (rg r) (.int 0) = some (.val (.int r.1)) := fun r => by
    have g0 := hd.cell r 0 (.int r.1) rfl
    rw [show ((0 : Nat) : Int) = 0 from rfl] at g0
    exact g0
  have d1 := dc_map (p := .nm 4) (vs := [4]) (mk := fE (oE (mOp gIx (oE (mVar 4)) (oE (mC (.int 0)))))) (mv := fE (oE (mC (.bool true)))) (g := rg) (v := fun _ => .bool true) (ky := fun r : RX => .inl r.1)
    (ε := [some (.fro (plD ts ys)), some (.fro HD), some (.fro (tieD y)), none, none, none, none]) (xs := rs2) (acc := [])
    (fun r hr => ⟨[some (.fro (plD ts ys)), some (.fro HD), some (.fro (tieD y)), none, some (.fro (rg r)), none, none], .int r.1, [some (.fro (plD ts ys)), some (.fro HD), some (.fro (tieD y)), none, some (.fro (rg r)), none, none], [some (.fro (plD ts ys)), some (.fro HD), some (.fro (tieD y)), none, some (.fro (rg r)), none, none], by simp, by simp [z0 r], by simp, rfl, by simp⟩)
    (by have := ro2.l; simpa using sz_of (by omega))
  have d1 : dcLoop (.nm 4) [4] mYes (fE (oE (mOp gIx (oE (mVar 4)) (oE (mC (.int 0)))))) (fE (oE (mC (.bool true)))) (rs2.map rg) [] [some (.fro (plD ts ys)), some (.fro HD), some (.fro (tieD y)), none, none, none, none] = .ok (keyX rs2) [some (.fro (plD ts ys)), some (.fro HD), some (.fro (tieD y)), none, none, none, none] := d1
  have e := lc_filtM (p := .nm 4) (vs := [4]) (c := mAnd (mBl (mOp (bo gNotN) (oE (mOp gIx (oE (mVar 4)) (oE (mVar 5)))) (oE (mC .none)))) (mBl (mDIn true 3 (oE (mOp gIx (oE (mVar 4)) (oE (mVar 5))))))) (m := fE (oE (mOp gIx (oE (mVar 4)) (oE (mC (.int 0)))))) (g := rg) (f := fun r => .int r.1) (q := fun r => !isNoneD (cellJ r j) && !(rs2.any fun q => wEq (.int q.1) (cellJ r j)))
    (ε := [some (.fro (plD ts ys)), some (.fro HD), some (.fro (tieD y)), some (.own (.dct (keyX rs2))), none, fI j, some (.fro R)]) (xs := rs) (acc := [])
    (fun r hr => by
      obtain ⟨c1, c2⟩ := cell_ok (ro.r r hr) jl
      have gc := hd.cell r j _ c1
      refine ⟨[some (.fro (plD ts ys)), some (.fro HD), some (.fro (tieD y)), some (.own (.dct (keyX rs2))), some (.fro (rg r)), fI j, some (.fro R)], [some (.fro (plD ts ys)), some (.fro HD), some (.fro (tieD y)), some (.own (.dct (keyX rs2))), some (.fro (rg r)), fI j, some (.fro R)], by simp, ?_, by simp, fun _ => ⟨[some (.fro (plD ts ys)), some (.fro HD), some (.fro (tieD y)), some (.own (.dct (keyX rs2))), some (.fro (rg r)), fI j, some (.fro R)], by simp [z0 r], by simp⟩⟩
      by_cases nz : isNoneD (cellJ r j) = true
      · simp [gc, gNotN, nz]
      · have nz' : isNoneD (cellJ r j) = false := by simpa using nz
        obtain ⟨kk, k1, k2⟩ := keyX_in rs2 c2 nz'
        generalize keyX rs2 = KX at *
        simp [gc, gNotN, nz', mDIn, dInR, dctAt, keyR, k1, k2])
    (by have := ro.l; simpa using sz_of (by omega))
  have el : lsX rs rs2 j = rs.filter fun r => !isNoneD (cellJ r j) && !(rs2.any fun q => wEq (.int q.1) (cellJ r j)) := rfl
  rw [el]
  rw [List.nil_append] at e
  generalize (rs.filter fun r => !isNoneD (cellJ r j) && !(rs2.any fun q => wEq (.int q.1) (cellJ r j))).map (fun r => PyData.int r.1) = Z at *
  generalize keyX rs2 = KX at *
  generalize plD ts ys = P at *
  simp [F_loose_by, B_loose_by, g0, g1, g2, g3, er2, hi2, d1, ec, er, hi, e]
end
end GC

namespace GC
open PySem PySem.Spec L2 M3 M4 M5
open PyProof.Rows hiding St
def Vl1 : Sm := (sSet 3 (mLst dsNil))
def Vl2 : Sm := (sFor (mIt (fE (oE (mLc (mIt (fE (oE (mOp gIx (oE (mVar 0)) (oE (mC (.int 1))))))) (.nm 4) [4] (mBl (mOp (bo gIn) (oE (mOp gIx (oE (mVar 4)) (oE (mC (.int 6))))) (oE (mVar 2)))) (fE (oE (mVar 4))))))) (.nm 4) (sSeq (sSet 5 (mLc (mIt (fE (oE (mOp gIx (oE (mVar 1)) (oE (mCall 2 F_law_place (msCons (oE (mOp gIx (oE (mVar 0)) (oE (mC (.int 0))))) (msCons (oE (mOp gIx (oE (mVar 4)) (oE (mC (.int 3))))) msNil)))))))) (.nm 6) [6] mYes (fE (oE (mOp gIx (oE (mVar 6)) (oE (mC (.int 0))))))))
    (sSeq (sUnp (fE (oE (mTup (dsCons (fE (oE (mOp gIx (oE (mVar 1)) (oE (mCall 2 F_law_place (msCons (oE (mOp gIx (oE (mVar 0)) (oE (mC (.int 0))))) (msCons (oE (mOp gIx (oE (mVar 4)) (oE (mC (.int 1))))) msNil))))))) (dsCons (fE (oE (mCall 3 F_law_column (msCons (oE (mOp gIx (oE (mVar 0)) (oE (mC (.int 0))))) (msCons (oE (mOp gIx (oE (mVar 4)) (oE (mC (.int 1))))) (msCons (oE (mOp gIx (oE (mVar 4)) (oE (mC (.int 2))))) msNil)))))) dsNil))))) (.tp [(.nm 7), (.nm 8)]))
    (sExtend 3 (oE (mLc (mIt (fE (oE (mVar 7)))) (.nm 6) [6] (mBl (mOp (bo gNotIn) (oE (mOp gIx (oE (mVar 6)) (oE (mVar 8)))) (oE (mOp gAdd (oE (mVar 5)) (oE (mLst (dsCons (fE (oE (mC .none))) dsNil))))))) (fE (oE (mTup (dsCons (fE (oE (mOp gIx (oE (mVar 4)) (oE (mC (.int 0)))))) (dsCons (fE (oE (mOp gIx (oE (mVar 6)) (oE (mC (.int 0)))))) dsNil)))))))))))
def Vl3 : Sm := (sRet (mVar 3))
theorem B_law_loose_is : B_law_loose = (sSeq Vl1 (sSeq Vl2 Vl3)) := rfl
def Vl2i : M (List D) := (mIt (fE (oE (mLc (mIt (fE (oE (mOp gIx (oE (mVar 0)) (oE (mC (.int 1))))))) (.nm 4) [4] (mBl (mOp (bo gIn) (oE (mOp gIx (oE (mVar 4)) (oE (mC (.int 6))))) (oE (mVar 2)))) (fE (oE (mVar 4)))))))
def Vb1 : Sm := (sSet 5 (mLc (mIt (fE (oE (mOp gIx (oE (mVar 1)) (oE (mCall 2 F_law_place (msCons (oE (mOp gIx (oE (mVar 0)) (oE (mC (.int 0))))) (msCons (oE (mOp gIx (oE (mVar 4)) (oE (mC (.int 3))))) msNil)))))))) (.nm 6) [6] mYes (fE (oE (mOp gIx (oE (mVar 6)) (oE (mC (.int 0))))))))
def Vb2 : Sm := (sUnp (fE (oE (mTup (dsCons (fE (oE (mOp gIx (oE (mVar 1)) (oE (mCall 2 F_law_place (msCons (oE (mOp gIx (oE (mVar 0)) (oE (mC (.int 0))))) (msCons (oE (mOp gIx (oE (mVar 4)) (oE (mC (.int 1))))) msNil))))))) (dsCons (fE (oE (mCall 3 F_law_column (msCons (oE (mOp gIx (oE (mVar 0)) (oE (mC (.int 0))))) (msCons (oE (mOp gIx (oE (mVar 4)) (oE (mC (.int 1))))) (msCons (oE (mOp gIx (oE (mVar 4)) (oE (mC (.int 2))))) msNil)))))) dsNil))))) (.tp [(.nm 7), (.nm 8)]))
def Vb3 : Sm := (sExtend 3 (oE (mLc (mIt (fE (oE (mVar 7)))) (.nm 6) [6] (mBl (mOp (bo gNotIn) (oE (mOp gIx (oE (mVar 6)) (oE (mVar 8)))) (oE (mOp gAdd (oE (mVar 5)) (oE (mLst (dsCons (fE (oE (mC .none))) dsNil))))))) (fE (oE (mTup (dsCons (fE (oE (mOp gIx (oE (mVar 4)) (oE (mC (.int 0)))))) (dsCons (fE (oE (mOp gIx (oE (mVar 6)) (oE (mC (.int 0)))))) dsNil))))))))
def Vb : Sm := (sSeq Vb1 (sSeq Vb2 Vb3))
theorem Vl2_is : Vl2 = sFor Vl2i (.nm 4) Vb := rfl
theorem loop_flat {α : Type} {p : Pat} {body : Sm} {g : α → D} {k : α → List D} (N : Nat) (I : List D → En → Prop) : ∀ {xs : List α} {acc : List D} {ε : En}, I acc ε → (∀ x ∈ xs, ∀ acc ε, I acc ε → acc.length + (k x).length ≤ N → ∃ ε1 ε2, bindP p (g x) ε = some ε1 ∧ body ε1 = .nx ε2 ∧ I (acc ++ k x) ε2) → acc.length + (xs.flatMap k).length ≤ N →
    ∃ ε', sLoop p body (xs.map g) ε = .nx ε' ∧ I (acc ++ xs.flatMap k) ε'
  | [], acc, ε, h0, _, _ => ⟨ε, by simp [sLoop], by simpa using h0⟩
  | x :: xs, acc, ε, h0, h, hl => by
    rw [List.flatMap_cons, List.length_append] at hl
    obtain ⟨ε1, ε2, h1, h2, h3⟩ := h x List.mem_cons_self acc ε h0 (by omega)
    obtain ⟨ε', e1, e2⟩ := loop_flat N I (xs := xs) h3 (fun x hx => h x (List.mem_cons_of_mem _ hx)) (by rw [List.length_append]; omega)
    refine ⟨ε', ?_, by rw [List.flatMap_cons, ← List.append_assoc]; exact e2⟩
    rw [List.map_cons]
    unfold sLoop
    rw [h1]
    simp only [h2]
    exact e1
theorem flat_len {α : Type} {k : α → List D} {n : Nat} : ∀ {xs : List α}, (∀ x ∈ xs, (k x).length ≤ n) → (xs.flatMap k).length ≤ n * xs.length
  | [], _ => by simp
  | x :: xs, h => by
    have h1 := h x List.mem_cons_self
    have h2 := flat_len (xs := xs) fun x hx => h x (List.mem_cons_of_mem _ hx)
    rw [List.flatMap_cons, List.length_append, List.length_cons, Nat.mul_add]
    omega
def losY (f : AF) (y : TY) : List D := (lsX (f y).2.2.2.1 (f y).2.2.2.2 (f y).2.1).map fun r => .tuple [dL y.n, .int r.1]
def losD (f : AF) (q : TY → Bool) (ys : List TY) : List D := (ys.filter q).flatMap (losY f)
/-- ties of a time: what is asked, and the times -/
structure Late (late times : D) (q : TY → Bool) (ys : List TY) : Prop where
  a : ∀ y ∈ ys, (isNoneD late = true ∧ q y = true) ∨ (isNoneD late = false ∧ gEq (.str y.w) late = some (q y))
  b : ∀ y ∈ ys, gIn (.str y.w) times = some (q y)
section
variable {ts : List M5.TT} (hT : GoodT ts) (hl : ts.length ≤ 100) {ys : List TY} (hy : ys.length ≤ 12) {ct : List (List RX)} (hC : CtOk ts ct) {f : AF} (hf : AllAt ts ct ys f)
include hT hC hf
theorem losY_len : ∀ y ∈ ys, (losY f y).length ≤ 10 := fun y hy => by
  have A := hf y hy
  have ro := (hC.g _ _ _ A.t A.r).l
  unfold losY lsX
  rw [List.length_map]
  exact Nat.le_trans (List.length_filter_le _ _) ro
include hy
theorem losD_len (q : TY → Bool) : (losD f q ys).length ≤ 120 := by
  have h1 := flat_len (k := losY f) (n := 10) (xs := ys.filter q) fun y hy => losY_len hT hC hf y (List.mem_filter.mp hy).1
  have h2 := List.length_filter_le q ys
  unfold losD
  have : 10 * (ys.filter q).length ≤ 10 * 12 := Nat.mul_le_mul_left _ (by omega)
  omega
theorem e_loose {HD : D} {rg : RX → D} (hd : HdOk ts HD rg ct) {late times : D} {q : TY → Bool} (L : Late late times q ys) : F_loose [some (.fro (plD ts ys)), some (.fro HD), some (.fro late)] = .ok (.new (.lst (losD f q ys))) [some (.fro (plD ts ys)), some (.fro HD), some (.fro late)] := by
  have P1 := (plD_pl ts ys).g1
  have c1 := lc_filtM (p := .nm 4) (vs := [4]) (c := mOr (mBl (mOp (bo gIsN) (oE (mVar 2)) (oE (mC .none)))) (mBl (mOp (bo gEq) (oE (mOp gIx (oE (mVar 4)) (oE (mC (.int 6))))) (oE (mVar 2))))) (m := fE (oE (mVar 4))) (g := tieD) (f := tieD) (q := q)
    (ε := [some (.fro (plD ts ys)), some (.fro HD), some (.fro late), none, none, none]) (xs := ys) (acc := [])
    (fun y hy => by
      have g6 : gIx (tieD y) (.int 6) = some (.val (.str y.w)) := by simp [tieD, gIx, atI, ixN]
      refine ⟨[some (.fro (plD ts ys)), some (.fro HD), some (.fro late), none, some (.fro (tieD y)), none], [some (.fro (plD ts ys)), some (.fro HD), some (.fro late), none, some (.fro (tieD y)), none], by simp, ?_, by simp, fun _ => ⟨[some (.fro (plD ts ys)), some (.fro HD), some (.fro late), none, some (.fro (tieD y)), none], by simp, by simp⟩⟩
      rcases L.a y hy with ⟨h1, h2⟩ | ⟨h1, h2⟩
      · simp [gIsN, h1, h2]
      · simp [gIsN, h1, h2, g6]) (by simpa using sz_of (by omega))
  have hlen := losD_len hT hy hC hf q
  have c2 := lc2_map (p := .nm 4) (p1 := .nm 5) (vs := [4, 5]) (vs1 := [5]) (c := mYes) (c1 := mYes) (mi1 := mIt (fE (oE (mCall 3 F_loose_by (msCons (oE (mVar 0)) (msCons (oE (mVar 1)) (msCons (oE (mVar 4)) msNil)))))))
    (m := fE (oE (mTup (dsCons (fE (oE (mOp gIx (oE (mVar 4)) (oE (mC (.int 0)))))) (dsCons (fE (oE (mVar 5))) dsNil))))) (g := tieD) (k := losY f)
    (ε := [some (.fro (plD ts ys)), some (.fro HD), some (.fro late), some (.fro (.list ((ys.filter q).map tieD))), none, none]) (xs := ys.filter q) (acc := [])
    (fun y hyq => by
      have hym := (List.mem_filter.mp hyq).1
      have A := hf y hym
      have e := e_loby (ys := ys) hT hC hd A
      have g0 : gIx (tieD y) (.int 0) = some (.val (dL y.n)) := by simp [tieD, gIx, atI, ixN]
      have h2s := M4.two_le
      generalize (ys.filter q).map tieD = TT at *
      generalize plD ts ys = P at *
      refine ⟨[some (.fro P), some (.fro HD), some (.fro late), some (.fro (.list TT)), some (.fro (tieD y)), none], [some (.fro P), some (.fro HD), some (.fro late), some (.fro (.list TT)), some (.fro (tieD y)), none], ((lsX (f y).2.2.2.1 (f y).2.2.2.2 (f y).2.1).map fun r => .int r.1), [some (.fro P), some (.fro HD), some (.fro late), some (.fro (.list TT)), some (.fro (tieD y)), none], by simp, by simp, by simp [e], fun acc hacc => ?_⟩
      have c := lc_map (p := .nm 5) (vs := [5]) (m := fE (oE (mTup (dsCons (fE (oE (mOp gIx (oE (mVar 4)) (oE (mC (.int 0)))))) (dsCons (fE (oE (mVar 5))) dsNil))))) (g := fun r : RX => PyData.int r.1) (f := fun r : RX => PyData.tuple [dL y.n, .int r.1])
        (ε := [some (.fro P), some (.fro HD), some (.fro late), some (.fro (.list TT)), some (.fro (tieD y)), none]) (xs := lsX (f y).2.2.2.1 (f y).2.2.2.2 (f y).2.1) (acc := acc)
        (fun r _ => ⟨[some (.fro P), some (.fro HD), some (.fro late), some (.fro (.list TT)), some (.fro (tieD y)), fI r.1], [some (.fro P), some (.fro HD), some (.fro late), some (.fro (.list TT)), some (.fro (tieD y)), fI r.1], by simp, by simp [g0, h2s], by simp⟩) (by unfold losY at hacc; rwa [List.length_map] at hacc)
      exact ⟨_, by simpa [losY] using c, by simp⟩) (by
        have h0 : (losD f q ys).length ≤ sizeLine := sz_of (by omega)
        simpa [losD] using h0)
  have el : losD f q ys = (ys.filter q).flatMap (losY f) := rfl
  rw [el]
  rw [List.nil_append] at c1 c2
  have it : itemsD (.tuple (ys.map tieD)) = some (ys.map tieD) := rfl
  generalize (ys.filter q).flatMap (losY f) = Z at *
  generalize (ys.filter q).map tieD = TT at *
  generalize plD ts ys = P at *
  generalize ys.map tieD = YD at *
  simp [F_loose, B_loose, P1, it, c1, c2]
end
end GC

namespace GC
open PySem PySem.Spec L2 M3 M4 M5
open PyProof.Rows hiding St
theorem sh_none : SeqAt.shaped PyData.none = true := by decide +kernel
theorem eqv_wd {i : Int} {c : D} (hc : Wd c) : PyData.eqv (.int i) c = wEq (.int i) c := by
  rcases hc with rfl | ⟨j, rfl, _, _⟩
  · simp [PyData.eqv, wEq]
  · simp [PyData.eqv, wEq]
theorem eqv_no {c : D} (hc : Wd c) : PyData.eqv .none c = isNoneD c := by
  rcases hc with rfl | ⟨j, rfl, _, _⟩
  · simp [PyData.eqv, isNoneD]
  · simp [PyData.eqv, isNoneD]
theorem wd_sh {c : D} (hc : Wd c) : SeqAt.shaped c = true := by
  rcases hc with rfl | ⟨j, rfl, _, _⟩
  · exact sh_none
  · exact sh_int j
theorem gIn_keys {c : D} (hc : Wd c) (rs2 : List RX) : gIn c (.list ((rs2.map fun r : RX => PyData.int r.1) ++ [PyData.none])) = some ((rs2.any fun q => wEq (.int q.1) c) || isNoneD c) := by
  have hs : SeqAt.shaped (.list ((rs2.map fun r : RX => PyData.int r.1) ++ [PyData.none])) = true := by
    refine sh_list (fun x hx => ?_) (fun x hx => ?_)
    · rcases List.mem_append.mp hx with hx | hx
      · obtain ⟨r, _, rfl⟩ := List.mem_map.mp hx; exact sh_int _
      · rw [List.mem_singleton.mp hx]; exact sh_none
    · rcases List.mem_append.mp hx with hx | hx
      · obtain ⟨r, _, rfl⟩ := List.mem_map.mp hx; unfold PyData.depth; omega
      · rw [List.mem_singleton.mp hx]; unfold PyData.depth; omega
  have e : gIn c (.list ((rs2.map fun r : RX => PyData.int r.1) ++ [PyData.none])) = (if SeqAt.shaped c = true ∧ SeqAt.shaped (.list ((rs2.map fun r : RX => PyData.int r.1) ++ [PyData.none])) = true then some (((rs2.map fun r : RX => PyData.int r.1) ++ [PyData.none]).any fun z => PyData.eqv z c) else none) := by
    rcases hc with rfl | ⟨j, rfl, _, _⟩ <;> rfl
  rw [e, if_pos ⟨wd_sh hc, hs⟩, List.any_append, List.any_map]
  have e2 : ((fun z => PyData.eqv z c) ∘ fun r : RX => PyData.int r.1) = fun q : RX => wEq (.int q.1) c := funext fun q => eqv_wd hc
  rw [e2]
  simp [eqv_no hc]
theorem gNotIn_keys {c : D} (hc : Wd c) (rs2 : List RX) : gNotIn c (.list ((rs2.map fun r : RX => PyData.int r.1) ++ [PyData.none])) = some (!isNoneD c && !(rs2.any fun q => wEq (.int q.1) c)) := by
  unfold gNotIn
  rw [gIn_keys hc]
  cases isNoneD c <;> simp
section
variable {ts : List M5.TT} (hT : GoodT ts) (hl : ts.length ≤ 100) {ys : List TY} (hy : ys.length ≤ 12) {ct : List (List RX)} (hC : CtOk ts ct) {f : AF} (hf : AllAt ts ct ys f)
include hT hl hC hf hy
theorem vb_ok {times : D} {y : TY} (hym : y ∈ ys) (acc : List D) (hacc : acc.length + (losY f y).length ≤ 120) (x5 x7 x8 : Option SV) : ∃ z5 z7 z8, Vb [some (.fro (plD ts ys)), some (.own (.lst (ct.map rowsC))), some (.fro times), some (.own (.lst acc)), some (.fro (tieD y)), x5, none, x7, x8] = .nx [some (.fro (plD ts ys)), some (.own (.lst (ct.map rowsC))), some (.fro times), some (.own (.lst (acc ++ losY f y))), some (.fro (tieD y)), z5, none, z7, z8] := by
  have A := hf y hym
  have ro := hC.g _ _ _ A.t A.r
  have ro2 := hC.g _ _ _ A.o A.r2
  have jl := lt_get A.c
  have P0 := (plD_pl ts ys).g0
  have g0 : gIx (tieD y) (.int 0) = some (.val (dL y.n)) := by simp [tieD, gIx, atI, ixN]
  have g1 : gIx (tieD y) (.int 1) = some (.val (dL y.t.1)) := by simp [tieD, gIx, atI, ixN]
  have g2 : gIx (tieD y) (.int 2) = some (.val (dL y.c.1)) := by simp [tieD, gIx, atI, ixN]
  have g3 : gIx (tieD y) (.int 3) = some (.val (dL y.o.1)) := by simp [tieD, gIx, atI, ixN]
  have p1 := e_place hT hl A.t
  have p2 := e_place hT hl A.o
  have pc := e_column hT hl A.t A.c
  have cx : ∀ (k : Nat) rs, ct[k]? = some rs → gIx (.list (ct.map rowsC)) (.int (k : Int)) = some (.val (rowsC rs)) := fun k rs h => gIx_ln (by rw [List.getElem?_map, h]; rfl)
  have i1 := cx _ _ A.r
  have i2 := cx _ _ A.r2
  have er : ∀ rs : List RX, itemsD (rowsC rs) = some (rs.map rowC) := fun _ => rfl
  have e1 := er (f y).2.2.2.1
  have e2 := er (f y).2.2.2.2
  have h2s := M4.two_le
  have h1s : (1 : Nat) ≤ sizeLine := sz_of (by omega)
  obtain ⟨jj, hjj⟩ : ∃ jj, jj = (f y).2.1 := ⟨_, rfl⟩
  obtain ⟨rs, hrs⟩ : ∃ rs, rs = (f y).2.2.2.1 := ⟨_, rfl⟩
  obtain ⟨rs2, hrs2⟩ : ∃ rs2, rs2 = (f y).2.2.2.2 := ⟨_, rfl⟩
  have eY : losY f y = (lsX rs rs2 jj).map fun r => .tuple [dL y.n, .int r.1] := by rw [hjj, hrs, hrs2]; rfl
  rw [eY] at hacc ⊢
  rw [← hjj] at jl pc
  rw [← hrs] at ro i1 e1
  rw [← hrs2] at ro2 i2 e2
  have c1 := lc_map (p := .nm 6) (vs := [6]) (m := fE (oE (mOp gIx (oE (mVar 6)) (oE (mC (.int 0)))))) (g := rowC) (f := fun r : RX => PyData.int r.1)
    (ε := [some (.fro (plD ts ys)), some (.own (.lst (ct.map rowsC))), some (.fro times), some (.own (.lst acc)), some (.fro (tieD y)), x5, none, x7, x8]) (xs := rs2) (acc := [])
    (fun r _ => by
      have g0 : gIx (rowC r) (.int 0) = some (.val (.int r.1)) := by simp [rowC, gIx, atI, ixN]
      exact ⟨[some (.fro (plD ts ys)), some (.own (.lst (ct.map rowsC))), some (.fro times), some (.own (.lst acc)), some (.fro (tieD y)), x5, some (.fro (rowC r)), x7, x8], [some (.fro (plD ts ys)), some (.own (.lst (ct.map rowsC))), some (.fro times), some (.own (.lst acc)), some (.fro (tieD y)), x5, some (.fro (rowC r)), x7, x8], by simp, by simp [g0], by simp⟩) (by have := ro2.l; simpa using sz_of (by omega))
  have ga : gAdd (.list (rs2.map fun r => PyData.int r.1)) (.list [.none]) = some (.newl ((rs2.map fun r : RX => PyData.int r.1) ++ [PyData.none])) := gAdd_ll (by have := ro2.l; rw [sizeLine_eq]; simp; omega)
  have c2 := lc_filtM (p := .nm 6) (vs := [6]) (c := mBl (mOp (bo gNotIn) (oE (mOp gIx (oE (mVar 6)) (oE (mVar 8)))) (oE (mOp gAdd (oE (mVar 5)) (oE (mLst (dsCons (fE (oE (mC .none))) dsNil)))))))
    (m := fE (oE (mTup (dsCons (fE (oE (mOp gIx (oE (mVar 4)) (oE (mC (.int 0)))))) (dsCons (fE (oE (mOp gIx (oE (mVar 6)) (oE (mC (.int 0)))))) dsNil))))) (g := rowC) (f := fun r : RX => PyData.tuple [dL y.n, .int r.1]) (q := fun r => !isNoneD (cellJ r jj) && !(rs2.any fun q => wEq (.int q.1) (cellJ r jj)))
    (ε := [some (.fro (plD ts ys)), some (.own (.lst (ct.map rowsC))), some (.fro times), some (.own (.lst acc)), some (.fro (tieD y)), some (.own (.lst (rs2.map fun r => PyData.int r.1))), none, some (.fro (rowsC rs)), fI jj]) (xs := rs) (acc := [])
    (fun r hr => by
      obtain ⟨k1, k2⟩ := cell_ok (ro.r r hr) jl
      have gc : gIx (rowC r) (.int (jj : Int)) = some (.val (cellJ r jj)) := gIx_t k1
      have z0 : gIx (rowC r) (.int 0) = some (.val (.int r.1)) := by simp [rowC, gIx, atI, ixN]
      have gn := gNotIn_keys k2 rs2
      generalize plD ts ys = P at *
      generalize ct.map rowsC = F at *
      generalize hz : (rs2.map fun r => PyData.int r.1) = Z at *
      refine ⟨[some (.fro P), some (.own (.lst F)), some (.fro times), some (.own (.lst acc)), some (.fro (tieD y)), some (.own (.lst Z)), some (.fro (rowC r)), some (.fro (rowsC rs)), fI jj], [some (.fro P), some (.own (.lst F)), some (.fro times), some (.own (.lst acc)), some (.fro (tieD y)), some (.own (.lst Z)), some (.fro (rowC r)), some (.fro (rowsC rs)), fI jj], by simp, ?_, by simp, fun _ => ⟨[some (.fro P), some (.own (.lst F)), some (.fro times), some (.own (.lst acc)), some (.fro (tieD y)), some (.own (.lst Z)), some (.fro (rowC r)), some (.fro (rowsC rs)), fI jj], by simp [g0, z0, h2s], by simp⟩⟩
      simp [gc, h1s, ga, gn]) (by have := ro.l; simpa using sz_of (by omega))
  have el : lsX rs rs2 jj = rs.filter fun r => !isNoneD (cellJ r jj) && !(rs2.any fun q => wEq (.int q.1) (cellJ r jj)) := rfl
  rw [el] at hacc ⊢
  rw [List.nil_append] at c1 c2
  have hz : acc.length + ((rs.filter fun r => !isNoneD (cellJ r jj) && !(rs2.any fun q => wEq (.int q.1) (cellJ r jj))).map fun r : RX => PyData.tuple [dL y.n, .int r.1]).length ≤ sizeLine := sz_of (by omega)
  generalize (rs.filter fun r => !isNoneD (cellJ r jj) && !(rs2.any fun q => wEq (.int q.1) (cellJ r jj))).map (fun r : RX => PyData.tuple [dL y.n, .int r.1]) = Z2 at *
  generalize (rs2.map fun r => PyData.int r.1) = Z1 at *
  generalize plD ts ys = P at *
  generalize ct.map rowsC = F at *
  have f1 : Vb1 [some (.fro P), some (.own (.lst F)), some (.fro times), some (.own (.lst acc)), some (.fro (tieD y)), x5, none, x7, x8] = .nx [some (.fro P), some (.own (.lst F)), some (.fro times), some (.own (.lst acc)), some (.fro (tieD y)), some (.own (.lst Z1)), none, x7, x8] := by
    simp [Vb1, P0, g3, p2, i2, e2, c1]
  have f2 : Vb2 [some (.fro P), some (.own (.lst F)), some (.fro times), some (.own (.lst acc)), some (.fro (tieD y)), some (.own (.lst Z1)), none, x7, x8] = .nx [some (.fro P), some (.own (.lst F)), some (.fro times), some (.own (.lst acc)), some (.fro (tieD y)), some (.own (.lst Z1)), none, some (.fro (rowsC rs)), fI jj] := by
    simp [Vb2, P0, g1, g2, p1, pc, i1, h2s]
  have f3 : Vb3 [some (.fro P), some (.own (.lst F)), some (.fro times), some (.own (.lst acc)), some (.fro (tieD y)), some (.own (.lst Z1)), none, some (.fro (rowsC rs)), fI jj] = .nx [some (.fro P), some (.own (.lst F)), some (.fro times), some (.own (.lst (acc ++ Z2))), some (.fro (tieD y)), some (.own (.lst Z1)), none, some (.fro (rowsC rs)), fI jj] := by
    simp [Vb3, sExtend, e1, c2, hz]
  exact ⟨_, _, _, by unfold Vb; rw [x_seq, f1, x_q1, x_seq, f2, x_q1, f3]⟩
theorem e_lawloose {late times : D} {q : TY → Bool} (L : Late late times q ys) : F_law_loose [some (.fro (plD ts ys)), some (.own (.lst (ct.map rowsC))), some (.fro times)] = .ok (.new (.lst (losD f q ys))) [some (.fro (plD ts ys)), some (.own (.lst (ct.map rowsC))), some (.fro times)] := by
  have P1 := (plD_pl ts ys).g1
  have h0s : (0 : Nat) ≤ sizeLine := sz_of (by omega)
  have c1 := lc_filtM (p := .nm 4) (vs := [4]) (c := mBl (mOp (bo gIn) (oE (mOp gIx (oE (mVar 4)) (oE (mC (.int 6))))) (oE (mVar 2)))) (m := fE (oE (mVar 4))) (g := tieD) (f := tieD) (q := q)
    (ε := [some (.fro (plD ts ys)), some (.own (.lst (ct.map rowsC))), some (.fro times), some (.own (.lst [])), none, none, none, none, none]) (xs := ys) (acc := [])
    (fun y hy => by
      have g6 : gIx (tieD y) (.int 6) = some (.val (.str y.w)) := by simp [tieD, gIx, atI, ixN]
      have hb := L.b y hy
      generalize plD ts ys = P at *
      generalize ct.map rowsC = F at *
      exact ⟨[some (.fro P), some (.own (.lst F)), some (.fro times), some (.own (.lst [])), some (.fro (tieD y)), none, none, none, none], [some (.fro P), some (.own (.lst F)), some (.fro times), some (.own (.lst [])), some (.fro (tieD y)), none, none, none, none], by simp, by simp [g6, hb], by simp, fun _ => ⟨[some (.fro P), some (.own (.lst F)), some (.fro times), some (.own (.lst [])), some (.fro (tieD y)), none, none, none, none], by simp, by simp⟩⟩) (by simpa using sz_of (by omega))
  have hlen := losD_len hT hy hC hf q
  obtain ⟨ε', e2, z4, z5, z7, z8, rfl⟩ := loop_flat (p := .nm 4) (body := Vb) (g := tieD) (k := losY f) 120 (fun acc ε => ∃ x4 x5 x7 x8, ε = [some (.fro (plD ts ys)), some (.own (.lst (ct.map rowsC))), some (.fro times), some (.own (.lst acc)), x4, x5, none, x7, x8])
    (xs := ys.filter q) (acc := []) (ε := [some (.fro (plD ts ys)), some (.own (.lst (ct.map rowsC))), some (.fro times), some (.own (.lst [])), none, none, none, none, none]) ⟨none, none, none, none, rfl⟩ (fun y hyq acc ε hI hacc => by
      obtain ⟨x4, x5, x7, x8, rfl⟩ := hI
      obtain ⟨z5, z7, z8, e⟩ := vb_ok hT hl hy hC hf (times := times) (List.mem_filter.mp hyq).1 acc hacc x5 x7 x8
      exact ⟨[some (.fro (plD ts ys)), some (.own (.lst (ct.map rowsC))), some (.fro times), some (.own (.lst acc)), some (.fro (tieD y)), x5, none, x7, x8], _, by simp, e, _, _, _, _, rfl⟩) (by
        rw [List.length_nil, Nat.zero_add]; exact hlen)
  have el : losD f q ys = (ys.filter q).flatMap (losY f) := rfl
  rw [el]
  rw [List.nil_append] at c1 e2
  have it : itemsD (.tuple (ys.map tieD)) = some (ys.map tieD) := rfl
  generalize (ys.filter q).flatMap (losY f) = Z at *
  generalize (ys.filter q).map tieD = TT at *
  generalize plD ts ys = P at *
  generalize ys.map tieD = YD at *
  generalize ct.map rowsC = F at *
  have f1 : Vl1 [some (.fro P), some (.own (.lst F)), some (.fro times), none, none, none, none, none, none] = .nx [some (.fro P), some (.own (.lst F)), some (.fro times), some (.own (.lst [])), none, none, none, none, none] := by simp [Vl1, h0s]
  have f2 : Vl2i [some (.fro P), some (.own (.lst F)), some (.fro times), some (.own (.lst [])), none, none, none, none, none] = .ok TT [some (.fro P), some (.own (.lst F)), some (.fro times), some (.own (.lst [])), none, none, none, none, none] := by simp [Vl2i, P1, it, c1]
  unfold F_law_loose
  exact fn_at (i := 3) (E := [some (.fro P), some (.own (.lst F)), some (.fro times), none, none, none, none, none, none]) rfl (by simp) rfl (by rw [B_law_loose_is, x_seq, f1, x_q1, x_seq, Vl2_is, x_for, f2, x_sok, e2, x_q1]; simp [Vl3]; rfl) (by simp) rfl rfl
end
end GC

namespace GC
open PySem PySem.Spec L2 M3 M4 M5
open PyProof.Rows hiding St
def Tr1 : Sm := (sFor (mRng1 (msCons (oE (mC (.int 2))) msNil)) (.nm 3) (sFor (mIt (fE (oE (mTup (dsCons (fE (oE (mTup (dsCons (fE (oE (mC .none))) (dsCons (fE (oE (mTup (dsCons (fE (oE (mC (.str "once")))) (dsCons (fE (oE (mC (.str "end")))) dsNil))))) dsNil))))) (dsCons (fE (oE (mTup (dsCons (fE (oE (mC (.str "once")))) (dsCons (fE (oE (mTup (dsCons (fE (oE (mC (.str "once")))) dsNil)))) dsNil))))) (dsCons (fE (oE (mTup (dsCons (fE (oE (mC (.str "end")))) (dsCons (fE (oE (mTup (dsCons (fE (oE (mC (.str "end")))) dsNil)))) dsNil))))) dsNil))))))) (.tp [(.nm 4), (.nm 5)]) (sSeq (sPar [6, 7] (msCons (mCall (2 + (["when"] : List Str).length) F_loose (msCat 2 (["when"] : List Str).length (msCons (oE (mVar 0)) (msCons (oE (mVar 2)) msNil)) (msCons (oE (mVar 4)) msNil))) (msCons (mCall 3 F_law_loose (msCons (oE (mVar 0)) (msCons (oE (mVar 1)) (msCons (oE (mVar 5)) msNil)))) msNil)))
    (sSeq (sIf (mNot (mTru (oE (mCallV 2 (F_law_same 12) (msCons (oE (mVar 6)) (msCons (oE (mVar 7)) msNil)))))) (sRet (mC (.bool false))) sNext)
    (sAppend 6 (fE (oE (mTup (dsCons (fE (oE (mC (.str "")))) (dsCons (fE (oE (mC (.int 0)))) dsNil))))))))))
def Tr2 : Sm := (sSet 8 (mCall 3 F_loose (msAppN (msCons (oE (mVar 0)) (msCons (oE (mVar 2)) msNil)))))
def Tr3 : Sm := (sSet 9 (mCall 2 F_holds (msCons (oE (mVar 0)) (msCons (oE (mVar 2)) msNil))))
def Tr4 : Sm := (sSet 10 (mAndV (oE (mIsi "bool" (oE (mVar 9)))) (mOp (bo gEq) (oE (mVar 9)) (oE (mOp (bo gEq) (oE (mVar 8)) (oE (mLst dsNil)))))))
def Tr5 : Sm := (sRet (mAndV (oE (mVar 10)) (mCallV 2 (F_law_same 12) (msCons (oE (mVar 8)) (msCons (oE (mCall 3 F_law_loose (msCons (oE (mVar 0)) (msCons (oE (mVar 1)) (msCons (oE (mTup (dsCons (fE (oE (mC (.str "once")))) (dsCons (fE (oE (mC (.str "end")))) dsNil)))) msNil))))) msNil)))))
theorem B_law_told_right_is : B_law_told_right = (sSeq Tr1 (sSeq Tr2 (sSeq Tr3 (sSeq Tr4 Tr5)))) := rfl
def Trw : Sm := (sFor (mIt (fE (oE (mTup (dsCons (fE (oE (mTup (dsCons (fE (oE (mC .none))) (dsCons (fE (oE (mTup (dsCons (fE (oE (mC (.str "once")))) (dsCons (fE (oE (mC (.str "end")))) dsNil))))) dsNil))))) (dsCons (fE (oE (mTup (dsCons (fE (oE (mC (.str "once")))) (dsCons (fE (oE (mTup (dsCons (fE (oE (mC (.str "once")))) dsNil)))) dsNil))))) (dsCons (fE (oE (mTup (dsCons (fE (oE (mC (.str "end")))) (dsCons (fE (oE (mTup (dsCons (fE (oE (mC (.str "end")))) dsNil)))) dsNil))))) dsNil))))))) (.tp [(.nm 4), (.nm 5)]) (sSeq (sPar [6, 7] (msCons (mCall (2 + (["when"] : List Str).length) F_loose (msCat 2 (["when"] : List Str).length (msCons (oE (mVar 0)) (msCons (oE (mVar 2)) msNil)) (msCons (oE (mVar 4)) msNil))) (msCons (mCall 3 F_law_loose (msCons (oE (mVar 0)) (msCons (oE (mVar 1)) (msCons (oE (mVar 5)) msNil)))) msNil)))
    (sSeq (sIf (mNot (mTru (oE (mCallV 2 (F_law_same 12) (msCons (oE (mVar 6)) (msCons (oE (mVar 7)) msNil)))))) (sRet (mC (.bool false))) sNext)
    (sAppend 6 (fE (oE (mTup (dsCons (fE (oE (mC (.str "")))) (dsCons (fE (oE (mC (.int 0)))) dsNil)))))))))
theorem Tr1_is : Tr1 = sFor (mRng1 (msCons (oE (mC (.int 2))) msNil)) (.nm 3) Trw := rfl
def Trwi : M (List D) := (mIt (fE (oE (mTup (dsCons (fE (oE (mTup (dsCons (fE (oE (mC .none))) (dsCons (fE (oE (mTup (dsCons (fE (oE (mC (.str "once")))) (dsCons (fE (oE (mC (.str "end")))) dsNil))))) dsNil))))) (dsCons (fE (oE (mTup (dsCons (fE (oE (mC (.str "once")))) (dsCons (fE (oE (mTup (dsCons (fE (oE (mC (.str "once")))) dsNil)))) dsNil))))) (dsCons (fE (oE (mTup (dsCons (fE (oE (mC (.str "end")))) (dsCons (fE (oE (mTup (dsCons (fE (oE (mC (.str "end")))) dsNil)))) dsNil))))) dsNil)))))))
def Tq1 : Sm := (sPar [6, 7] (msCons (mCall (2 + (["when"] : List Str).length) F_loose (msCat 2 (["when"] : List Str).length (msCons (oE (mVar 0)) (msCons (oE (mVar 2)) msNil)) (msCons (oE (mVar 4)) msNil))) (msCons (mCall 3 F_law_loose (msCons (oE (mVar 0)) (msCons (oE (mVar 1)) (msCons (oE (mVar 5)) msNil)))) msNil)))
def Tq2 : Sm := (sIf (mNot (mTru (oE (mCallV 2 (F_law_same 12) (msCons (oE (mVar 6)) (msCons (oE (mVar 7)) msNil)))))) (sRet (mC (.bool false))) sNext)
def Tq3 : Sm := (sAppend 6 (fE (oE (mTup (dsCons (fE (oE (mC (.str "")))) (dsCons (fE (oE (mC (.int 0)))) dsNil))))))
def Tq : Sm := (sSeq Tq1 (sSeq Tq2 Tq3))
theorem Trw_is : Trw = sFor Trwi (.tp [(.nm 4), (.nm 5)]) Tq := rfl
def T0 : D := .tuple [.str "once", .str "end"]
def T1 : D := .tuple [.str "once"]
def T2 : D := .tuple [.str "end"]
theorem late0 {ys : List TY} (hw : ∀ y ∈ ys, y.w ∈ WN) : Late .none T0 (fun _ => true) ys where
  a := fun y _ => .inl ⟨rfl, rfl⟩
  b := fun y hy => by
    have h : ∀ z ∈ WN, gIn (.str z) T0 = some true := by decide +kernel
    exact h _ (hw y hy)
theorem late1 {ys : List TY} (hw : ∀ y ∈ ys, y.w ∈ WN) : Late (.str "once") T1 (fun y => y.w == "once") ys where
  a := fun y hy => by
    have h : ∀ z ∈ WN, gEq (.str z) (.str "once") = some (z == "once") := by decide +kernel
    exact .inr ⟨rfl, h _ (hw y hy)⟩
  b := fun y hy => by
    have h : ∀ z ∈ WN, gIn (.str z) T1 = some (z == "once") := by decide +kernel
    exact h _ (hw y hy)
theorem late2 {ys : List TY} (hw : ∀ y ∈ ys, y.w ∈ WN) : Late (.str "end") T2 (fun y => y.w == "end") ys where
  a := fun y hy => by
    have h : ∀ z ∈ WN, gEq (.str z) (.str "end") = some (z == "end") := by decide +kernel
    exact .inr ⟨rfl, h _ (hw y hy)⟩
  b := fun y hy => by
    have h : ∀ z ∈ WN, gIn (.str z) T2 = some (z == "end") := by decide +kernel
    exact h _ (hw y hy)
theorem loop2 {p : Pat} {body : Sm} {a b : D} {ε ε1 ε2 ε3 ε4 : En} (h1 : bindP p a ε = some ε1) (h2 : body ε1 = .nx ε2) (h3 : bindP p b ε2 = some ε3) (h4 : body ε3 = .nx ε4) : sLoop p body [a, b] ε = .nx ε4 := by
  unfold sLoop; rw [h1]; simp only [h2]
  unfold sLoop; rw [h3]; simp only [h4]
  unfold sLoop; rfl
theorem loop3 {p : Pat} {body : Sm} {a b c : D} {ε ε1 ε2 ε3 ε4 ε5 ε6 : En} (h1 : bindP p a ε = some ε1) (h2 : body ε1 = .nx ε2) (h3 : bindP p b ε2 = some ε3) (h4 : body ε3 = .nx ε4) (h5 : bindP p c ε4 = some ε5) (h6 : body ε5 = .nx ε6) : sLoop p body [a, b, c] ε = .nx ε6 := by
  unfold sLoop; rw [h1]; simp only [h2]
  unfold sLoop; rw [h3]; simp only [h4]
  unfold sLoop; rw [h5]; simp only [h6]
  unfold sLoop; rfl
theorem gEq_nil {L : List D} (hs : SeqAt.shaped (.list L) = true) : gEq (.list L) (.list []) = some L.isEmpty := by
  unfold gEq
  rw [if_pos ⟨hs, sh_nil⟩]
  cases L <;> simp [PyData.eqv, PyData.eqvAll]
section
variable {ts : List M5.TT} (hT : GoodT ts) (hl : ts.length ≤ 100) {ys : List TY} (hy : ys.length ≤ 12) (hg : ∀ y ∈ ys, GoodY ts y) {ct : List (List RX)} (hC : CtOk ts ct) {f : AF} (hf : AllAt ts ct ys f) {HD : D} {rg : RX → D} (hd : HdOk ts HD rg ct)
include hT hl hC hf hy hg
theorem los_el (q : TY → Bool) : ∀ d ∈ losD f q ys, ∃ (l : List Nat) (i : Int), Gn l ∧ d = .tuple [dL l, .int i] := fun d hd => by
  obtain ⟨y, hyq, hm⟩ := List.mem_flatMap.mp hd
  obtain ⟨r, _, rfl⟩ := List.mem_map.mp hm
  exact ⟨y.n, r.1, (hg y (List.mem_filter.mp hyq).1).n, rfl⟩
theorem los_sw (q : TY → Bool) : Sw 11 (.list (losD f q ys)) := by
  have h1 := losD_len hT hy hC hf q
  unfold Sw
  refine ⟨by omega, fun d hd => ?_⟩
  obtain ⟨l, i, _, rfl⟩ := los_el hT hl hy hg hC hf q d hd
  unfold Sw
  refine ⟨by simp, fun x hx => ?_⟩
  simp only [List.mem_cons, List.not_mem_nil, or_false] at hx
  rcases hx with rfl | rfl
  · unfold dL Sw; trivial
  · unfold Sw; trivial
theorem los_sh (q : TY → Bool) : SeqAt.shaped (.list (losD f q ys)) = true := by
  refine sh_list (fun d hd => ?_) (fun d hd => ?_)
  · obtain ⟨l, i, hl, rfl⟩ := los_el hT hl hy hg hC hf q d hd
    refine sh_tup (fun x hx => ?_) (fun x hx => ?_)
    · simp only [List.mem_cons, List.not_mem_nil, or_false] at hx
      rcases hx with rfl | rfl
      · exact hl.shd
      · exact sh_int i
    · simp only [List.mem_cons, List.not_mem_nil, or_false] at hx
      rcases hx with rfl | rfl
      · unfold dL PyData.depth; omega
      · unfold PyData.depth; omega
  · obtain ⟨l, i, hl, rfl⟩ := los_el hT hl hy hg hC hf q d hd
    simp [dL, PyData.depth, PyData.depthAll]
include hd
theorem tb_ok {late times : D} {q : TY → Bool} (L : Late late times q ys) (x3 x6 x7 : Option SV) : Tq [some (.fro (plD ts ys)), some (.own (.lst (ct.map rowsC))), some (.fro HD), x3, some (.fro late), some (.fro times), x6, x7, none, none, none] = .nx [some (.fro (plD ts ys)), some (.own (.lst (ct.map rowsC))), some (.fro HD), x3, some (.fro late), some (.fro times), some (.own (.lst (losD f q ys ++ [.tuple [.str "", .int 0]]))), some (.own (.lst (losD f q ys))), none, none, none] := by
  have e1 := e_loose hT hy hC hf hd L
  have e2 := e_lawloose hT hl hy hC hf L
  have s1 := same12 (los_sw hT hl hy hg hC hf q)
  have hlen := losD_len hT hy hC hf q
  have hz : (losD f q ys).length < sizeLine := by rw [sizeLine_eq]; omega
  have h2s := M4.two_le
  generalize losD f q ys = Z at *
  generalize plD ts ys = P at *
  generalize ct.map rowsC = F at *
  have f1 : Tq1 [some (.fro P), some (.own (.lst F)), some (.fro HD), x3, some (.fro late), some (.fro times), x6, x7, none, none, none] = .nx [some (.fro P), some (.own (.lst F)), some (.fro HD), x3, some (.fro late), some (.fro times), some (.own (.lst Z)), some (.own (.lst Z)), none, none, none] := by
    simp [Tq1, e1, e2]
  have f2 : Tq2 [some (.fro P), some (.own (.lst F)), some (.fro HD), x3, some (.fro late), some (.fro times), some (.own (.lst Z)), some (.own (.lst Z)), none, none, none] = .nx [some (.fro P), some (.own (.lst F)), some (.fro HD), x3, some (.fro late), some (.fro times), some (.own (.lst Z)), some (.own (.lst Z)), none, none, none] := by
    simp [Tq2, s1]
  have f3 : Tq3 [some (.fro P), some (.own (.lst F)), some (.fro HD), x3, some (.fro late), some (.fro times), some (.own (.lst Z)), some (.own (.lst Z)), none, none, none] = .nx [some (.fro P), some (.own (.lst F)), some (.fro HD), x3, some (.fro late), some (.fro times), some (.own (.lst (Z ++ [.tuple [.str "", .int 0]]))), some (.own (.lst Z)), none, none, none] := by
    simp [Tq3, hz, h2s]
  unfold Tq
  rw [x_seq, f1, x_q1, x_seq, f2, x_q1, f3]
theorem e_holds : F_holds [some (.fro (plD ts ys)), some (.fro HD)] = .ok (.fro (.bool (losD f (fun _ => true) ys).isEmpty)) [some (.fro (plD ts ys)), some (.fro HD)] := by
  have hw : ∀ y ∈ ys, y.w ∈ WN := fun y hy => (hg y hy).w
  have e1 := e_loose hT hy hC hf hd (late0 hw)
  have g := gEq_nil (los_sh hT hl hy hg hC hf fun _ => true)
  have h0s : (0 : Nat) ≤ sizeLine := sz_of (by omega)
  generalize losD f (fun _ => true) ys = Z at *
  generalize plD ts ys = P at *
  simp [F_holds, B_holds, e1, g, h0s]
theorem e_told : F_law_told_right [some (.fro (plD ts ys)), some (.own (.lst (ct.map rowsC))), some (.fro HD)] = .ok (.fro (.bool true)) [some (.fro (plD ts ys)), some (.own (.lst (ct.map rowsC))), some (.fro HD)] := by
  have hw : ∀ y ∈ ys, y.w ∈ WN := fun y hy => (hg y hy).w
  have b0 := fun x3 x6 x7 => tb_ok hT hl hy hg hC hf hd (late0 hw) x3 x6 x7
  have b1 := fun x3 x6 x7 => tb_ok hT hl hy hg hC hf hd (late1 hw) x3 x6 x7
  have b2 := fun x3 x6 x7 => tb_ok hT hl hy hg hC hf hd (late2 hw) x3 x6 x7
  have e1 := e_loose hT hy hC hf hd (late0 hw)
  have e2 := e_lawloose hT hl hy hC hf (late0 hw)
  have eh := e_holds hT hl hy hg hC hf hd
  have g := gEq_nil (los_sh hT hl hy hg hC hf fun _ => true)
  have s1 := same12 (los_sw hT hl hy hg hC hf fun _ => true)
  have h0s : (0 : Nat) ≤ sizeLine := sz_of (by omega)
  have h1s : (1 : Nat) ≤ sizeLine := sz_of (by omega)
  have h2s := M4.two_le
  have h3s : (3 : Nat) ≤ sizeLine := sz_of (by omega)
  generalize losD f (fun _ => true) ys = Z at *
  generalize losD f (fun y => y.w == "once") ys = Z1 at *
  generalize losD f (fun y => y.w == "end") ys = Z2 at *
  generalize plD ts ys = P at *
  generalize ct.map rowsC = F at *
  unfold T0 T1 T2 at *
  have inner : ∀ x3 x4 x5 x6 x7 : Option SV, ∃ z4 z5 z6 z7, Trw [some (.fro P), some (.own (.lst F)), some (.fro HD), x3, x4, x5, x6, x7, none, none, none] = .nx [some (.fro P), some (.own (.lst F)), some (.fro HD), x3, z4, z5, z6, z7, none, none, none] := fun x3 x4 x5 x6 x7 => by
    have fi : Trwi [some (.fro P), some (.own (.lst F)), some (.fro HD), x3, x4, x5, x6, x7, none, none, none] = .ok [.tuple [.none, .tuple [.str "once", .str "end"]], .tuple [.str "once", .tuple [.str "once"]], .tuple [.str "end", .tuple [.str "end"]]] [some (.fro P), some (.own (.lst F)), some (.fro HD), x3, x4, x5, x6, x7, none, none, none] := by
      simp [Trwi, h1s, h2s, h3s]
    exact ⟨_, _, _, _, by
      rw [Trw_is, x_for, fi, x_sok]
      exact loop3 (h2 := b0 x3 x6 x7) (h4 := b1 x3 (some (.own (.lst (Z ++ [.tuple [.str "", .int 0]])))) (some (.own (.lst Z)))) (h6 := b2 x3 (some (.own (.lst (Z1 ++ [.tuple [.str "", .int 0]])))) (some (.own (.lst Z1)))) (h1 := by simp) (h3 := by simp) (h5 := by simp)⟩
  obtain ⟨a4, a5, a6, a7, i1⟩ := inner (fI 0) none none none none
  obtain ⟨c4, c5, c6, c7, i2⟩ := inner (fI 1) a4 a5 a6 a7
  have f1 : Tr1 [some (.fro P), some (.own (.lst F)), some (.fro HD), none, none, none, none, none, none, none, none] = .nx [some (.fro P), some (.own (.lst F)), some (.fro HD), fI 1, c4, c5, c6, c7, none, none, none] := by
    have r2 : rngD 0 2 = [.int 0, .int 1] := rfl
    have l2 := loop2 (p := .nm 3) (body := Trw) (a := .int 0) (b := .int 1) (ε := [some (.fro P), some (.own (.lst F)), some (.fro HD), none, none, none, none, none, none, none, none]) (h2 := i1) (h4 := i2) (h1 := by simp) (h3 := by simp)
    simp [Tr1_is, r2, l2]
  unfold F_law_told_right
  refine fn_rt (E := [some (.fro P), some (.own (.lst F)), some (.fro HD), none, none, none, none, none, none, none, none]) (ε' := [some (.fro P), some (.own (.lst F)), some (.fro HD), fI 1, c4, c5, c6, c7, some (.own (.lst Z)), some (.fro (.bool Z.isEmpty)), some (.fro (.bool true))]) rfl (by simp) rfl ?_ rfl
  rw [B_law_told_right_is, x_seq, f1, x_q1]
  have f2 : Tr2 [some (.fro P), some (.own (.lst F)), some (.fro HD), fI 1, c4, c5, c6, c7, none, none, none] = .nx [some (.fro P), some (.own (.lst F)), some (.fro HD), fI 1, c4, c5, c6, c7, some (.own (.lst Z)), none, none] := by simp [Tr2, e1]
  have f3 : Tr3 [some (.fro P), some (.own (.lst F)), some (.fro HD), fI 1, c4, c5, c6, c7, some (.own (.lst Z)), none, none] = .nx [some (.fro P), some (.own (.lst F)), some (.fro HD), fI 1, c4, c5, c6, c7, some (.own (.lst Z)), some (.fro (.bool Z.isEmpty)), none] := by simp [Tr3, eh]
  have f4 : Tr4 [some (.fro P), some (.own (.lst F)), some (.fro HD), fI 1, c4, c5, c6, c7, some (.own (.lst Z)), some (.fro (.bool Z.isEmpty)), none] = .nx [some (.fro P), some (.own (.lst F)), some (.fro HD), fI 1, c4, c5, c6, c7, some (.own (.lst Z)), some (.fro (.bool Z.isEmpty)), some (.fro (.bool true))] := by
    simp [Tr4, isi_bool, M4.is_bool, g, h0s, gEq_bool]
  rw [x_seq, f2, x_q1, x_seq, f3, x_q1, x_seq, f4, x_q1]
  simp [Tr5, e2, s1, h2s]
end
end GC

namespace GC
open PySem PySem.Spec L2 M3 M4 M5
open PyProof.Rows hiding St
def Vt1 : Sm := (sSet 2 (mLc (mIt (fE (oE (mVar 1)))) (.nm 3) [3] mYes (fE (oE (mCallB gList (msCons (oE (mVar 3)) msNil))))))
def Vt2 : Sm := (sFor (mRng1 (msCons (oE (mC (.int 61))) msNil)) (.nm 4) (sFor (mIt (fE (oE (mOp gIx (oE (mVar 0)) (oE (mC (.int 1))))))) (.nm 5) (sSeq (sSet 6 (mOp gAdd (oE (mLc (mIt (fE (oE (mOp gIx (oE (mVar 2)) (oE (mCall 2 F_law_place (msCons (oE (mOp gIx (oE (mVar 0)) (oE (mC (.int 0))))) (msCons (oE (mOp gIx (oE (mVar 5)) (oE (mC (.int 3))))) msNil)))))))) (.nm 7) [7] mYes (fE (oE (mOp gIx (oE (mVar 7)) (oE (mC (.int 0)))))))) (oE (mLst (dsCons (fE (oE (mC .none))) dsNil)))))
    (sSeq (sUnp (fE (oE (mTup (dsCons (fE (oE (mCall 2 F_law_place (msCons (oE (mOp gIx (oE (mVar 0)) (oE (mC (.int 0))))) (msCons (oE (mOp gIx (oE (mVar 5)) (oE (mC (.int 1))))) msNil))))) (dsCons (fE (oE (mCall 3 F_law_column (msCons (oE (mOp gIx (oE (mVar 0)) (oE (mC (.int 0))))) (msCons (oE (mOp gIx (oE (mVar 5)) (oE (mC (.int 1))))) (msCons (oE (mOp gIx (oE (mVar 5)) (oE (mC (.int 2))))) msNil)))))) dsNil))))) (.tp [(.nm 8), (.nm 9)]))
    (sIf (mBl (mOp (bo gEq) (oE (mVar 9)) (oE (mC (.int 0))))) (sSetItem 2 (oE (mVar 8)) (fE (oE (mLc (mIt (fE (oE (mOp gIx (oE (mVar 2)) (oE (mVar 8)))))) (.nm 7) [7] (mBl (mOp (bo gIn) (oE (mOp gIx (oE (mVar 7)) (oE (mC (.int 0))))) (oE (mVar 6)))) (fE (oE (mVar 7))))))) (sSeq (sSet 10 (mLc (mIt (fE (oE (mOp gIx (oE (mVar 2)) (oE (mVar 8)))))) (.nm 7) [7] mYes (fE (oE (mOp gMul (oE (mVar 9)) (oE (mCallB gInt (msCons (oE (mOp (bo gNotIn) (oE (mOp gIx (oE (mVar 7)) (oE (mVar 9)))) (oE (mVar 6)))) msNil))))))))
    (sSeq (sSet 3 (mListZip (dsCons (fE (oE (mOp gIx (oE (mVar 2)) (oE (mVar 8))))) (dsCons (fE (oE (mVar 10))) dsNil))))
    (sSetItem 2 (oE (mVar 8)) (fE (oE (mLc (mIt (fE (oE (mVar 3)))) (.tp [(.nm 7), (.nm 11)]) [7, 11] mYes (fE (oE (mIfE (mBl (mOp (bo gGt) (oE (mVar 11)) (oE (mC (.int 0))))) (mOp gAdd (oE (mOp gAdd (oE (mSl gSl (oE (mVar 7)) mNoPart (mPart (oE (mVar 11))))) (oE (mTup (dsCons (fE (oE (mC .none))) dsNil))))) (oE (mSl gSl (oE (mVar 7)) (mPart (oE (mOp gAdd (oE (mVar 11)) (oE (mC (.int 1)))))) mNoPart))) (mVar 7)))))))))))))))
def Vt3 : Sm := (sRet (mVar 2))
theorem B_law_tied_is : B_law_tied = (sSeq Vt1 (sSeq Vt2 Vt3)) := rfl
def Vtw : Sm := (sFor (mIt (fE (oE (mOp gIx (oE (mVar 0)) (oE (mC (.int 1))))))) (.nm 5) (sSeq (sSet 6 (mOp gAdd (oE (mLc (mIt (fE (oE (mOp gIx (oE (mVar 2)) (oE (mCall 2 F_law_place (msCons (oE (mOp gIx (oE (mVar 0)) (oE (mC (.int 0))))) (msCons (oE (mOp gIx (oE (mVar 5)) (oE (mC (.int 3))))) msNil)))))))) (.nm 7) [7] mYes (fE (oE (mOp gIx (oE (mVar 7)) (oE (mC (.int 0)))))))) (oE (mLst (dsCons (fE (oE (mC .none))) dsNil)))))
    (sSeq (sUnp (fE (oE (mTup (dsCons (fE (oE (mCall 2 F_law_place (msCons (oE (mOp gIx (oE (mVar 0)) (oE (mC (.int 0))))) (msCons (oE (mOp gIx (oE (mVar 5)) (oE (mC (.int 1))))) msNil))))) (dsCons (fE (oE (mCall 3 F_law_column (msCons (oE (mOp gIx (oE (mVar 0)) (oE (mC (.int 0))))) (msCons (oE (mOp gIx (oE (mVar 5)) (oE (mC (.int 1))))) (msCons (oE (mOp gIx (oE (mVar 5)) (oE (mC (.int 2))))) msNil)))))) dsNil))))) (.tp [(.nm 8), (.nm 9)]))
    (sIf (mBl (mOp (bo gEq) (oE (mVar 9)) (oE (mC (.int 0))))) (sSetItem 2 (oE (mVar 8)) (fE (oE (mLc (mIt (fE (oE (mOp gIx (oE (mVar 2)) (oE (mVar 8)))))) (.nm 7) [7] (mBl (mOp (bo gIn) (oE (mOp gIx (oE (mVar 7)) (oE (mC (.int 0))))) (oE (mVar 6)))) (fE (oE (mVar 7))))))) (sSeq (sSet 10 (mLc (mIt (fE (oE (mOp gIx (oE (mVar 2)) (oE (mVar 8)))))) (.nm 7) [7] mYes (fE (oE (mOp gMul (oE (mVar 9)) (oE (mCallB gInt (msCons (oE (mOp (bo gNotIn) (oE (mOp gIx (oE (mVar 7)) (oE (mVar 9)))) (oE (mVar 6)))) msNil))))))))
    (sSeq (sSet 3 (mListZip (dsCons (fE (oE (mOp gIx (oE (mVar 2)) (oE (mVar 8))))) (dsCons (fE (oE (mVar 10))) dsNil))))
    (sSetItem 2 (oE (mVar 8)) (fE (oE (mLc (mIt (fE (oE (mVar 3)))) (.tp [(.nm 7), (.nm 11)]) [7, 11] mYes (fE (oE (mIfE (mBl (mOp (bo gGt) (oE (mVar 11)) (oE (mC (.int 0))))) (mOp gAdd (oE (mOp gAdd (oE (mSl gSl (oE (mVar 7)) mNoPart (mPart (oE (mVar 11))))) (oE (mTup (dsCons (fE (oE (mC .none))) dsNil))))) (oE (mSl gSl (oE (mVar 7)) (mPart (oE (mOp gAdd (oE (mVar 11)) (oE (mC (.int 1)))))) mNoPart))) (mVar 7))))))))))))))
theorem Vt2_is : Vt2 = sFor (mRng1 (msCons (oE (mC (.int 61))) msNil)) (.nm 4) Vtw := rfl
def Vtwi : M (List D) := (mIt (fE (oE (mOp gIx (oE (mVar 0)) (oE (mC (.int 1)))))))
def Wt1 : Sm := (sSet 6 (mOp gAdd (oE (mLc (mIt (fE (oE (mOp gIx (oE (mVar 2)) (oE (mCall 2 F_law_place (msCons (oE (mOp gIx (oE (mVar 0)) (oE (mC (.int 0))))) (msCons (oE (mOp gIx (oE (mVar 5)) (oE (mC (.int 3))))) msNil)))))))) (.nm 7) [7] mYes (fE (oE (mOp gIx (oE (mVar 7)) (oE (mC (.int 0)))))))) (oE (mLst (dsCons (fE (oE (mC .none))) dsNil)))))
def Wt2 : Sm := (sUnp (fE (oE (mTup (dsCons (fE (oE (mCall 2 F_law_place (msCons (oE (mOp gIx (oE (mVar 0)) (oE (mC (.int 0))))) (msCons (oE (mOp gIx (oE (mVar 5)) (oE (mC (.int 1))))) msNil))))) (dsCons (fE (oE (mCall 3 F_law_column (msCons (oE (mOp gIx (oE (mVar 0)) (oE (mC (.int 0))))) (msCons (oE (mOp gIx (oE (mVar 5)) (oE (mC (.int 1))))) (msCons (oE (mOp gIx (oE (mVar 5)) (oE (mC (.int 2))))) msNil)))))) dsNil))))) (.tp [(.nm 8), (.nm 9)]))
def Wt3 : Sm := (sIf (mBl (mOp (bo gEq) (oE (mVar 9)) (oE (mC (.int 0))))) (sSetItem 2 (oE (mVar 8)) (fE (oE (mLc (mIt (fE (oE (mOp gIx (oE (mVar 2)) (oE (mVar 8)))))) (.nm 7) [7] (mBl (mOp (bo gIn) (oE (mOp gIx (oE (mVar 7)) (oE (mC (.int 0))))) (oE (mVar 6)))) (fE (oE (mVar 7))))))) (sSeq (sSet 10 (mLc (mIt (fE (oE (mOp gIx (oE (mVar 2)) (oE (mVar 8)))))) (.nm 7) [7] mYes (fE (oE (mOp gMul (oE (mVar 9)) (oE (mCallB gInt (msCons (oE (mOp (bo gNotIn) (oE (mOp gIx (oE (mVar 7)) (oE (mVar 9)))) (oE (mVar 6)))) msNil))))))))
    (sSeq (sSet 3 (mListZip (dsCons (fE (oE (mOp gIx (oE (mVar 2)) (oE (mVar 8))))) (dsCons (fE (oE (mVar 10))) dsNil))))
    (sSetItem 2 (oE (mVar 8)) (fE (oE (mLc (mIt (fE (oE (mVar 3)))) (.tp [(.nm 7), (.nm 11)]) [7, 11] mYes (fE (oE (mIfE (mBl (mOp (bo gGt) (oE (mVar 11)) (oE (mC (.int 0))))) (mOp gAdd (oE (mOp gAdd (oE (mSl gSl (oE (mVar 7)) mNoPart (mPart (oE (mVar 11))))) (oE (mTup (dsCons (fE (oE (mC .none))) dsNil))))) (oE (mSl gSl (oE (mVar 7)) (mPart (oE (mOp gAdd (oE (mVar 11)) (oE (mC (.int 1)))))) mNoPart))) (mVar 7)))))))))))
def Wt : Sm := (sSeq Wt1 (sSeq Wt2 Wt3))
theorem Vtw_is : Vtw = sFor Vtwi (.nm 5) Wt := rfl
def WtA : Sm := (sSetItem 2 (oE (mVar 8)) (fE (oE (mLc (mIt (fE (oE (mOp gIx (oE (mVar 2)) (oE (mVar 8)))))) (.nm 7) [7] (mBl (mOp (bo gIn) (oE (mOp gIx (oE (mVar 7)) (oE (mC (.int 0))))) (oE (mVar 6)))) (fE (oE (mVar 7)))))))
def WtB1 : Sm := (sSet 10 (mLc (mIt (fE (oE (mOp gIx (oE (mVar 2)) (oE (mVar 8)))))) (.nm 7) [7] mYes (fE (oE (mOp gMul (oE (mVar 9)) (oE (mCallB gInt (msCons (oE (mOp (bo gNotIn) (oE (mOp gIx (oE (mVar 7)) (oE (mVar 9)))) (oE (mVar 6)))) msNil))))))))
def WtB2 : Sm := (sSet 3 (mListZip (dsCons (fE (oE (mOp gIx (oE (mVar 2)) (oE (mVar 8))))) (dsCons (fE (oE (mVar 10))) dsNil))))
def WtB3 : Sm := (sSetItem 2 (oE (mVar 8)) (fE (oE (mLc (mIt (fE (oE (mVar 3)))) (.tp [(.nm 7), (.nm 11)]) [7, 11] mYes (fE (oE (mIfE (mBl (mOp (bo gGt) (oE (mVar 11)) (oE (mC (.int 0))))) (mOp gAdd (oE (mOp gAdd (oE (mSl gSl (oE (mVar 7)) mNoPart (mPart (oE (mVar 11))))) (oE (mTup (dsCons (fE (oE (mC .none))) dsNil))))) (oE (mSl gSl (oE (mVar 7)) (mPart (oE (mOp gAdd (oE (mVar 11)) (oE (mC (.int 1)))))) mNoPart))) (mVar 7))))))))
def WtB : Sm := (sSeq WtB1 (sSeq WtB2 WtB3))
theorem Wt3_is : Wt3 = sIf (mBl (mOp (bo gEq) (oE (mVar 9)) (oE (mC (.int 0))))) WtA WtB := rfl
theorem out_addT {xs ys : List D} {ε : En} (h : xs.length + ys.length ≤ sizeLine) : outR (gAdd (.tuple xs) (.tuple ys)) ε = .ok (.fro (.tuple (xs ++ ys))) ε := by
  show outR (if xs.length + ys.length ≤ sizeLine then (if xs = [] then some (.val (.tuple ys)) else if ys = [] then some (.val (.tuple xs)) else some (.newt (xs ++ ys))) else none) ε = _
  rw [if_pos h]
  by_cases h1 : xs = []
  · rw [if_pos h1, h1]; rfl
  · rw [if_neg h1]
    by_cases h2 : ys = []
    · rw [if_pos h2, h2, List.append_nil]; rfl
    · rw [if_neg h2]; rfl
theorem gm_one (a : Int) (b : Bool) : gMul (.int a) (.int (if b = true then 1 else 0)) = some (.val (.int (if b = true then a else 0))) := by
  cases b
  · show gMul (.int a) (.int 0) = _
    rw [gMul_i ⟨by decide, by decide⟩]; simp
  · show gMul (.int a) (.int 1) = _
    rw [gMul_i ⟨by decide, by decide⟩]; simp
theorem gg_pos {j : Nat} (h : 0 < j) : gGt (.int (j : Int)) (.int 0) = some true := by
  show some (decide (_ < _)) = _
  rw [decide_eq_true (by omega : (0 : Int) < (j : Int))]
theorem set_cut (ds : List D) (k : Nat) (h : k < ds.length) : ds.take k ++ [PyData.none] ++ ds.drop (k + 1) = ds.set k .none := by
  rw [List.set_eq_take_append_cons_drop, if_pos h]
  simp
theorem zipT_map {α : Type} (g h : α → D) : ∀ xs : List α, zipT (xs.map g) (xs.map h) = xs.map fun x => .tuple [g x, h x]
  | [] => rfl
  | x :: xs => by
    have := zipT_map g h xs
    unfold zipT at this ⊢
    simp at this ⊢
    exact this
/-- a row with nothing in a column behind the key -/
def rowN (r : RX) (j : Nat) : RX := (r.1, r.2.set (j - 1) .none)
theorem rowN_c (r : RX) {j : Nat} (h : 0 < j) : rowC (rowN r j) = .tuple ((PyData.int r.1 :: r.2).set j .none) := by
  cases j with
  | zero => omega
  | succ j => rfl
theorem rowN_ok {cols : List TC} {r : RX} (h : RowOk cols r) (j : Nat) : RowOk cols (rowN r j) :=
  ⟨by unfold rowN; rw [List.length_set]; exact h.l, fun d hd => by
    unfold rowN at hd
    rcases List.mem_or_eq_of_mem_set hd with hd | rfl
    · exact h.w d hd
    · exact .inl rfl, h.b⟩
theorem rows_filt {cols : List TC} {rs : List RX} (h : RowsOk cols rs) (q : RX → Bool) : RowsOk cols (rs.filter q) :=
  ⟨fun r hr => h.r r (List.mem_filter.mp hr).1, h.up.sublist (List.Sublist.map _ List.filter_sublist), Nat.le_trans (List.length_filter_le _ _) h.l⟩
theorem rows_map {cols : List TC} {rs : List RX} (h : RowsOk cols rs) (g : RX → RX) (h1 : ∀ r, (g r).1 = r.1) (h2 : ∀ r, RowOk cols r → RowOk cols (g r)) : RowsOk cols (rs.map g) :=
  ⟨fun r hr => by obtain ⟨x, hx, rfl⟩ := List.mem_map.mp hr; exact h2 x (h.r x hx), by
    rw [List.map_map]
    have : (fun r : RX => r.1) ∘ g = fun r => r.1 := funext h1
    rw [show ((·.1) ∘ g : RX → Int) = fun r => r.1 from this]
    exact h.up, by rw [List.length_map]; exact h.l⟩
theorem ct_set {ts : List M5.TT} {ct : List (List RX)} (hC : CtOk ts ct) {k : Nat} {t : M5.TT} {rs : List RX} (ht : ts[k]? = some t) (hr : RowsOk t.2 rs) : CtOk ts (ct.set k rs) :=
  ⟨by rw [List.length_set]; exact hC.l, fun k' t' rs' h1 h2 => by
    by_cases e : k = k'
    · subst e
      rw [ht] at h1
      cases h1
      have hk : k < ct.length := by rw [hC.l]; exact lt_get ht
      rw [List.getElem?_set_self hk] at h2
      cases h2
      exact hr
    · rw [List.getElem?_set_ne e] at h2
      exact hC.g k' t' rs' h1 h2⟩
def mElS : M D := fE (oE (mOp gMul (oE (mVar 9)) (oE (mCallB gInt (msCons (oE (mOp (bo gNotIn) (oE (mOp gIx (oE (mVar 7)) (oE (mVar 9)))) (oE (mVar 6)))) msNil)))))
theorem elS {r : RX} {j : Int} {c : D} {KZ : List D} {b : Bool} (h1 : gIx (rowC r) (.int j) = some (.val c)) (h2 : gNotIn c (.list KZ) = some b) (a0 a1 a2 a3 a4 a5 a8 a10 a11 : Option SV) : mElS [a0, a1, a2, a3, a4, a5, some (.own (.lst KZ)), some (.fro (rowC r)), a8, some (.fro (.int j)), a10, a11] = .ok (.int (if b = true then j else 0)) [a0, a1, a2, a3, a4, a5, some (.own (.lst KZ)), some (.fro (rowC r)), a8, some (.fro (.int j)), a10, a11] := by
  have m0 := gm_one j false
  have m1 := gm_one j true
  rw [if_neg (by simp), if_neg (by simp)] at m0
  rw [if_pos rfl, if_pos rfl] at m1
  cases b
  · rw [if_neg (by simp)]
    have e : gInt [.bool false] = some (.val (.int 0)) := rfl
    simp [mElS, h1, h2, e, m0]
  · rw [if_pos rfl]
    have e : gInt [.bool true] = some (.val (.int 1)) := rfl
    simp [mElS, h1, h2, e, m1]
def mElN : M D := fE (oE (mIfE (mBl (mOp (bo gGt) (oE (mVar 11)) (oE (mC (.int 0))))) (mOp gAdd (oE (mOp gAdd (oE (mSl gSl (oE (mVar 7)) mNoPart (mPart (oE (mVar 11))))) (oE (mTup (dsCons (fE (oE (mC .none))) dsNil))))) (oE (mSl gSl (oE (mVar 7)) (mPart (oE (mOp gAdd (oE (mVar 11)) (oE (mC (.int 1)))))) mNoPart))) (mVar 7)))
theorem elN {r : RX} {j : Nat} (hj0 : 0 < j) (hdl : j < r.2.length + 1) (hd6 : r.2.length ≤ 50) (a0 a1 a2 a3 a4 a5 a6 a8 a9 a10 : Option SV) : mElN [a0, a1, a2, a3, a4, a5, a6, some (.fro (rowC r)), a8, a9, a10, fI j] = .ok (rowC (rowN r j)) [a0, a1, a2, a3, a4, a5, a6, some (.fro (rowC r)), a8, a9, a10, fI j] := by
  have gg := gg_pos hj0
  have h1s : (1 : Nat) ≤ sizeLine := sz_of (by omega)
  obtain ⟨DS, hDS⟩ : ∃ DS : List D, DS = PyData.int r.1 :: r.2 := ⟨_, rfl⟩
  have hdl : j < DS.length := by rw [hDS, List.length_cons]; exact hdl
  have hd6 : DS.length ≤ 100 := by rw [hDS, List.length_cons]; omega
  have er : rowC r = .tuple DS := by rw [hDS]; rfl
  have s1 : ∀ ε : En, outR (gSl (.tuple DS) none (some (j : Int))) ε = .ok (.fro (.tuple (DS.take j))) ε := fun ε => by rw [out_slT]; rw [cut_to DS (p := (j : Int)) (by omega), Int.toNat_natCast]
  have s2 : ∀ ε : En, outR (gSl (.tuple DS) (some ((j : Int) + 1)) none) ε = .ok (.fro (.tuple (DS.drop (j + 1)))) ε := fun ε => by rw [out_slT]; rw [cut_from DS (p := (j : Int) + 1) (by omega), show ((j : Int) + 1).toNat = j + 1 by omega]
  have a1 : ∀ ε : En, outR (gAdd (.tuple (DS.take j)) (.tuple [.none])) ε = .ok (.fro (.tuple (DS.take j ++ [.none]))) ε := fun ε => out_addT (sz_of (by rw [List.length_take]; simp; omega))
  have a2 : ∀ ε : En, outR (gAdd (.tuple (DS.take j ++ [.none])) (.tuple (DS.drop (j + 1)))) ε = .ok (.fro (.tuple (DS.set j .none))) ε := fun ε => by
    rw [out_addT (sz_of (by rw [List.length_append, List.length_take, List.length_drop]; simp; omega)), set_cut DS j hdl]
  have eN : rowC (rowN r j) = .tuple (DS.set j .none) := by rw [hDS]; exact rowN_c r hj0
  rw [er, eN]
  generalize DS.set j .none = Z4 at *
  generalize DS.take j ++ [PyData.none] = Z3 at *
  generalize DS.take j = Z1 at *
  generalize DS.drop (j + 1) = Z2 at *
  simp [mElN, gg, gAdd_i, s1, s2, a1, a2, h1s]
section
variable {ts : List M5.TT} (hT : GoodT ts) (hl : ts.length ≤ 100) {ys : List TY} (hy : ys.length ≤ 12) (hg : ∀ y ∈ ys, GoodY ts y)
include hT hl hy hg
theorem wt_ok (X : D) {ct : List (List RX)} (hC : CtOk ts ct) {y : TY} (hym : y ∈ ys) (x3 x4 x6 x8 x9 x10 : Option SV) : ∃ (ct' : List (List RX)) (z3 z6 z8 z9 z10 : Option SV), CtOk ts ct' ∧ Wt [some (.fro (plD ts ys)), some (.fro X), some (.own (.lst (ct.map rowsC))), x3, x4, some (.fro (tieD y)), x6, none, x8, x9, x10, none] = .nx [some (.fro (plD ts ys)), some (.fro X), some (.own (.lst (ct'.map rowsC))), z3, x4, some (.fro (tieD y)), z6, none, z8, z9, z10, none] := by
  obtain ⟨k, j, k2, rs, rs2, A⟩ := at_of hC (hg y hym)
  have ro := hC.g _ _ _ A.t A.r
  have ro2 := hC.g _ _ _ A.o A.r2
  have jl := lt_get A.c
  have P0 := (plD_pl ts ys).g0
  have g1 : gIx (tieD y) (.int 1) = some (.val (dL y.t.1)) := by simp [tieD, gIx, atI, ixN]
  have g2 : gIx (tieD y) (.int 2) = some (.val (dL y.c.1)) := by simp [tieD, gIx, atI, ixN]
  have g3 : gIx (tieD y) (.int 3) = some (.val (dL y.o.1)) := by simp [tieD, gIx, atI, ixN]
  have p1 := e_place hT hl A.t
  have p2 := e_place hT hl A.o
  have pc := e_column hT hl A.t A.c
  have cx : ∀ (k : Nat) rs, ct[k]? = some rs → gIx (.list (ct.map rowsC)) (.int (k : Int)) = some (.val (rowsC rs)) := fun k rs h => gIx_ln (by rw [List.getElem?_map, h]; rfl)
  have i1 := cx _ _ A.r
  have i2 := cx _ _ A.r2
  have e1 : itemsD (rowsC rs) = some (rs.map rowC) := rfl
  have e2 : itemsD (rowsC rs2) = some (rs2.map rowC) := rfl
  have h2s := M4.two_le
  have h1s : (1 : Nat) ≤ sizeLine := sz_of (by omega)
  have kl : k < ct.length := lt_get A.r
  have ixk : ixN (ct.map rowsC).length (k : Int) = some k := by
    rw [List.length_map]
    have := ixN_lt (n := ct.length) (k := (k : Int)) (by omega) (by omega)
    simpa using this
  have z0 : ∀ r : RX, gIx (rowC r) (.int 0) = some (.val (.int r.1)) := fun r => by simp [rowC, gIx, atI, ixN]
  have ga : gAdd (.list (rs2.map fun r => PyData.int r.1)) (.list [.none]) = some (.newl ((rs2.map fun r => PyData.int r.1) ++ [.none])) := gAdd_ll (by have := ro2.l; rw [sizeLine_eq]; simp; omega)
  obtain ⟨KZ, hKZ⟩ : ∃ KZ : List D, KZ = (rs2.map fun r => PyData.int r.1) ++ [.none] := ⟨_, rfl⟩
  have sets : ∀ rs', (ct.map rowsC).set k (rowsC rs') = (ct.set k rs').map rowsC := fun rs' => (List.map_set).symm
  have c1 := lc_map (p := .nm 7) (vs := [7]) (m := fE (oE (mOp gIx (oE (mVar 7)) (oE (mC (.int 0)))))) (g := rowC) (f := fun r : RX => PyData.int r.1)
    (ε := [some (.fro (plD ts ys)), some (.fro X), some (.own (.lst (ct.map rowsC))), x3, x4, some (.fro (tieD y)), x6, none, x8, x9, x10, none]) (xs := rs2) (acc := [])
    (fun r _ => ⟨[some (.fro (plD ts ys)), some (.fro X), some (.own (.lst (ct.map rowsC))), x3, x4, some (.fro (tieD y)), x6, some (.fro (rowC r)), x8, x9, x10, none], [some (.fro (plD ts ys)), some (.fro X), some (.own (.lst (ct.map rowsC))), x3, x4, some (.fro (tieD y)), x6, some (.fro (rowC r)), x8, x9, x10, none], by simp, by simp [z0 r], by simp⟩) (by have := ro2.l; simpa using sz_of (by omega))
  rw [List.nil_append] at c1
  have f1 : Wt1 [some (.fro (plD ts ys)), some (.fro X), some (.own (.lst (ct.map rowsC))), x3, x4, some (.fro (tieD y)), x6, none, x8, x9, x10, none] = .nx [some (.fro (plD ts ys)), some (.fro X), some (.own (.lst (ct.map rowsC))), x3, x4, some (.fro (tieD y)), some (.own (.lst KZ)), none, x8, x9, x10, none] := by
    rw [hKZ]
    generalize (rs2.map fun r => PyData.int r.1) = Z1 at *
    generalize plD ts ys = P at *
    generalize ct.map rowsC = F at *
    simp [Wt1, P0, g3, p2, i2, e2, c1, h1s, ga]
  have f2 : Wt2 [some (.fro (plD ts ys)), some (.fro X), some (.own (.lst (ct.map rowsC))), x3, x4, some (.fro (tieD y)), some (.own (.lst KZ)), none, x8, x9, x10, none] = .nx [some (.fro (plD ts ys)), some (.fro X), some (.own (.lst (ct.map rowsC))), x3, x4, some (.fro (tieD y)), some (.own (.lst KZ)), none, fI k, fI j, x10, none] := by
    generalize plD ts ys = P at *
    generalize ct.map rowsC = F at *
    simp [Wt2, P0, g1, g2, p1, pc, h2s]
  have gj : gEq (.int (j : Int)) (.int 0) = some (decide (j = 0)) := by
    rw [gEq_int]
    by_cases h : j = 0
    · simp [h]
    · simp [h]
  by_cases hj : j = 0
  · have c2 := lc_filtM (p := .nm 7) (vs := [7]) (c := mBl (mOp (bo gIn) (oE (mOp gIx (oE (mVar 7)) (oE (mC (.int 0))))) (oE (mVar 6)))) (m := fE (oE (mVar 7))) (g := rowC) (f := rowC) (q := fun r : RX => (rs2.any fun q => wEq (.int q.1) (.int r.1)) || isNoneD (.int r.1))
      (ε := [some (.fro (plD ts ys)), some (.fro X), some (.own (.lst (ct.map rowsC))), x3, x4, some (.fro (tieD y)), some (.own (.lst KZ)), none, fI k, fI j, x10, none]) (xs := rs) (acc := [])
      (fun r hr => by
        have gn := gIn_keys (c := .int r.1) (.inr ⟨_, rfl, (ro.r r hr).b.1, (ro.r r hr).b.2⟩) rs2
        rw [← hKZ] at gn
        generalize plD ts ys = P at *
        generalize ct.map rowsC = F at *
        exact ⟨[some (.fro P), some (.fro X), some (.own (.lst F)), x3, x4, some (.fro (tieD y)), some (.own (.lst KZ)), some (.fro (rowC r)), fI k, fI j, x10, none], [some (.fro P), some (.fro X), some (.own (.lst F)), x3, x4, some (.fro (tieD y)), some (.own (.lst KZ)), some (.fro (rowC r)), fI k, fI j, x10, none], by simp, by simp [z0 r, gn], by simp, fun _ => ⟨[some (.fro P), some (.fro X), some (.own (.lst F)), x3, x4, some (.fro (tieD y)), some (.own (.lst KZ)), some (.fro (rowC r)), fI k, fI j, x10, none], by simp, by simp⟩⟩)
      (by have := ro.l; simpa using sz_of (by omega))
    rw [List.nil_append] at c2
    obtain ⟨rs', hrs'⟩ : ∃ rs', rs' = rs.filter (fun r : RX => (rs2.any fun q => wEq (.int q.1) (.int r.1)) || isNoneD (.int r.1)) := ⟨_, rfl⟩
    rw [← hrs'] at c2
    refine ⟨ct.set k rs', x3, some (.own (.lst KZ)), fI k, fI j, x10, ct_set hC A.t (by rw [hrs']; exact rows_filt ro _), ?_⟩
    have st := sets rs'
    rw [← st]
    have er' : rowsC rs' = .list (rs'.map rowC) := rfl
    rw [er'] at st ⊢
    have f3 : WtA [some (.fro (plD ts ys)), some (.fro X), some (.own (.lst (ct.map rowsC))), x3, x4, some (.fro (tieD y)), some (.own (.lst KZ)), none, fI k, fI j, x10, none] = .nx [some (.fro (plD ts ys)), some (.fro X), some (.own (.lst ((ct.map rowsC).set k (.list (rs'.map rowC))))), x3, x4, some (.fro (tieD y)), some (.own (.lst KZ)), none, fI k, fI j, x10, none] := by
      generalize plD ts ys = P at *
      generalize ct.map rowsC = F at *
      simp [WtA, i1, e1, c2, ixk]
    unfold Wt
    rw [x_seq, f1, x_q1, x_seq, f2, x_q1, Wt3_is]
    have hjd : decide (j = 0) = true := by simpa using hj
    rw [hjd] at gj
    simp [gj, f3]
  · have hj0 : 0 < j := by omega
    obtain ⟨lo, hlo⟩ : ∃ lo : RX → Bool, lo = fun r => !isNoneD (cellJ r j) && !(rs2.any fun q => wEq (.int q.1) (cellJ r j)) := ⟨_, rfl⟩
    have gc : ∀ r ∈ rs, gIx (rowC r) (.int (j : Int)) = some (.val (cellJ r j)) ∧ gNotIn (cellJ r j) (.list KZ) = some (lo r) := fun r hr => by
      obtain ⟨k1, k2⟩ := cell_ok (ro.r r hr) jl
      have gn := gNotIn_keys k2 rs2
      rw [← hKZ] at gn
      exact ⟨gIx_t k1, by rw [hlo]; exact gn⟩
    have gm : ∀ b : Bool, gMul (.int (j : Int)) (.int (if b = true then 1 else 0)) = some (.val (.int (if b = true then (j : Int) else 0))) := gm_one j
    have c2 := lc_map (p := .nm 7) (vs := [7]) (m := fE (oE (mOp gMul (oE (mVar 9)) (oE (mCallB gInt (msCons (oE (mOp (bo gNotIn) (oE (mOp gIx (oE (mVar 7)) (oE (mVar 9)))) (oE (mVar 6)))) msNil)))))) (g := rowC) (f := fun r : RX => PyData.int (if lo r = true then (j : Int) else 0))
      (ε := [some (.fro (plD ts ys)), some (.fro X), some (.own (.lst (ct.map rowsC))), x3, x4, some (.fro (tieD y)), some (.own (.lst KZ)), none, fI k, fI j, x10, none]) (xs := rs) (acc := [])
      (fun r hr => by
        obtain ⟨a1, a2⟩ := gc r hr
        generalize plD ts ys = P at *
        generalize ct.map rowsC = F at *
        refine ⟨[some (.fro P), some (.fro X), some (.own (.lst F)), x3, x4, some (.fro (tieD y)), some (.own (.lst KZ)), some (.fro (rowC r)), fI k, fI j, x10, none], [some (.fro P), some (.fro X), some (.own (.lst F)), x3, x4, some (.fro (tieD y)), some (.own (.lst KZ)), some (.fro (rowC r)), fI k, fI j, x10, none], by simp, ?_, by simp⟩
        exact elS a1 a2 (some (.fro P)) (some (.fro X)) (some (.own (.lst F))) x3 x4 (some (.fro (tieD y))) (fI k) x10 none) (by have := ro.l; simpa using sz_of (by omega))
    have hz : rs.length = rs.length := rfl
    have zt := zipT_map rowC (fun r : RX => PyData.int (if lo r = true then (j : Int) else 0)) rs
    have c3 := lc_map (p := .tp [.nm 7, .nm 11]) (vs := [7, 11]) (m := fE (oE (mIfE (mBl (mOp (bo gGt) (oE (mVar 11)) (oE (mC (.int 0))))) (mOp gAdd (oE (mOp gAdd (oE (mSl gSl (oE (mVar 7)) mNoPart (mPart (oE (mVar 11))))) (oE (mTup (dsCons (fE (oE (mC .none))) dsNil))))) (oE (mSl gSl (oE (mVar 7)) (mPart (oE (mOp gAdd (oE (mVar 11)) (oE (mC (.int 1)))))) mNoPart))) (mVar 7))))
      (g := fun r : RX => PyData.tuple [rowC r, .int (if lo r = true then (j : Int) else 0)]) (f := fun r : RX => rowC (if lo r = true then rowN r j else r))
      (ε := [some (.fro (plD ts ys)), some (.fro X), some (.own (.lst (ct.map rowsC))), some (.fro (.list (rs.map fun r : RX => PyData.tuple [rowC r, .int (if lo r = true then (j : Int) else 0)]))), x4, some (.fro (tieD y)), some (.own (.lst KZ)), none, fI k, fI j, some (.fro (.list (rs.map fun r : RX => PyData.int (if lo r = true then (j : Int) else 0)))), none]) (xs := rs) (acc := [])
      (fun r hr => by
        have hlr := (ro.r r hr).l
        generalize (rs.map fun r : RX => PyData.tuple [rowC r, .int (if lo r = true then (j : Int) else 0)]) = ZR at *
        generalize (rs.map fun r : RX => PyData.int (if lo r = true then (j : Int) else 0)) = SR at *
        generalize plD ts ys = P at *
        generalize ct.map rowsC = F at *
        refine ⟨[some (.fro P), some (.fro X), some (.own (.lst F)), some (.fro (.list ZR)), x4, some (.fro (tieD y)), some (.own (.lst KZ)), some (.fro (rowC r)), fI k, fI j, some (.fro (.list SR)), some (.fro (.int (if lo r = true then (j : Int) else 0)))], [some (.fro P), some (.fro X), some (.own (.lst F)), some (.fro (.list ZR)), x4, some (.fro (tieD y)), some (.own (.lst KZ)), some (.fro (rowC r)), fI k, fI j, some (.fro (.list SR)), some (.fro (.int (if lo r = true then (j : Int) else 0)))], by simp, ?_, by simp⟩
        cases hlo2 : lo r with
        | false =>
          have gg : gGt (.int 0) (.int 0) = some false := rfl
          simp [gg]
        | true =>
          have gcl := (hT.g _ (List.mem_of_getElem? A.t)).2.l
          have q := elN (r := r) hj0 (by omega) (by omega) (some (.fro P)) (some (.fro X)) (some (.own (.lst F))) (some (.fro (.list ZR))) x4 (some (.fro (tieD y))) (some (.own (.lst KZ))) (fI k) (fI j) (some (.fro (.list SR)))
          rw [if_pos rfl, if_pos rfl]
          exact q) (by have := ro.l; simpa using sz_of (by omega))
    rw [List.nil_append] at c2 c3
    obtain ⟨rs', hrs'⟩ : ∃ rs' : List RX, rs' = rs.map fun r => if lo r = true then rowN r j else r := ⟨_, rfl⟩
    have em : (rs.map fun r : RX => rowC (if lo r = true then rowN r j else r)) = rs'.map rowC := by rw [hrs', List.map_map]; rfl
    rw [em] at c3
    have okr : RowsOk y.t.2 rs' := by
      rw [hrs']
      refine rows_map ro _ (fun r => ?_) (fun r h => ?_)
      · by_cases h : lo r = true
        · rw [if_pos h]; rfl
        · rw [if_neg h]
      · by_cases h2 : lo r = true
        · rw [if_pos h2]; exact rowN_ok h j
        · rw [if_neg h2]; exact h
    have st := sets rs'
    have er' : rowsC rs' = .list (rs'.map rowC) := rfl
    have hl1 : (rs.map rowC).length = (rs.map fun r : RX => PyData.int (if lo r = true then (j : Int) else 0)).length := by rw [List.length_map, List.length_map]
    have hjd : decide (j = 0) = false := by simpa using hj
    rw [hjd] at gj
    rw [er'] at st
    refine ⟨ct.set k rs', some (.fro (.list (rs.map fun r : RX => PyData.tuple [rowC r, .int (if lo r = true then (j : Int) else 0)]))), some (.own (.lst KZ)), fI k, fI j, some (.fro (.list (rs.map fun r : RX => PyData.int (if lo r = true then (j : Int) else 0)))), ct_set hC A.t okr, ?_⟩
    rw [← st]
    have ers : rowsC rs = .list (rs.map rowC) := rfl
    rw [ers] at i1
    rw [ers] at e1
    generalize (rs.map fun r : RX => PyData.tuple [rowC r, .int (if lo r = true then (j : Int) else 0)]) = ZR at *
    generalize (rs.map fun r : RX => PyData.int (if lo r = true then (j : Int) else 0)) = SR at *
    generalize plD ts ys = P at *
    generalize ct.map rowsC = F at *
    generalize rs'.map rowC = R' at *
    generalize rs.map rowC = RC at *
    have f3 : WtB1 [some (.fro P), some (.fro X), some (.own (.lst F)), x3, x4, some (.fro (tieD y)), some (.own (.lst KZ)), none, fI k, fI j, x10, none] = .nx [some (.fro P), some (.fro X), some (.own (.lst F)), x3, x4, some (.fro (tieD y)), some (.own (.lst KZ)), none, fI k, fI j, some (.own (.lst SR)), none] := by
      simp [WtB1, i1, e1, c2]
    have f4 : WtB2 [some (.fro P), some (.fro X), some (.own (.lst F)), x3, x4, some (.fro (tieD y)), some (.own (.lst KZ)), none, fI k, fI j, some (.own (.lst SR)), none] = .nx [some (.fro P), some (.fro X), some (.own (.lst F)), some (.own (.lst ZR)), x4, some (.fro (tieD y)), some (.own (.lst KZ)), none, fI k, fI j, some (.fro (.list SR)), none] := by
      simp [WtB2, i1, hl1, zt]
    have f5 : WtB3 [some (.fro P), some (.fro X), some (.own (.lst F)), some (.own (.lst ZR)), x4, some (.fro (tieD y)), some (.own (.lst KZ)), none, fI k, fI j, some (.fro (.list SR)), none] = .nx [some (.fro P), some (.fro X), some (.own (.lst (F.set k (.list R')))), some (.fro (.list ZR)), x4, some (.fro (tieD y)), some (.own (.lst KZ)), none, fI k, fI j, some (.fro (.list SR)), none] := by
      simp [WtB3, c3, ixk]
    unfold Wt
    rw [x_seq, f1, x_q1, x_seq, f2, x_q1, Wt3_is]
    simp [gj, WtB, f3, f4, f5]
end
end GC

namespace GC
open PySem PySem.Spec L2 M3 M4 M5
open PyProof.Rows hiding St
theorem e_tied {ts : List M5.TT} (hT : GoodT ts) (hl : ts.length ≤ 100) {ys : List TY} (hy : ys.length ≤ 12) (hg : ∀ y ∈ ys, GoodY ts y) {ct : List (List RX)} (hC : CtOk ts ct) : ∃ ct', CtOk ts ct' ∧ F_law_tied [some (.fro (plD ts ys)), some (.own (.lst (ct.map rowsC)))] = .ok (.new (.lst (ct'.map rowsC))) [some (.fro (plD ts ys)), some (.fro (.list (ct.map rowsC)))] := by
  have P1 := (plD_pl ts ys).g1
  have hcl := hC.l
  have rl : ∀ rs ∈ ct, rs.length ≤ 10 := fun rs hr => by
    obtain ⟨k, hk⟩ := List.getElem?_of_mem hr
    have hkt : k < ts.length := by rw [← hC.l]; exact lt_get hk
    exact (hC.g k _ rs (List.getElem?_eq_getElem hkt) hk).l
  have c1 := lc_map (p := .nm 3) (vs := [3]) (m := fE (oE (mCallB gList (msCons (oE (mVar 3)) msNil)))) (g := rowsC) (f := rowsC) (ε := [some (.fro (plD ts ys)), some (.fro (.list (ct.map rowsC))), none, none, none, none, none, none, none, none, none, none]) (xs := ct) (acc := [])
    (fun rs hr => by
      have e : ∀ ε : En, outR (gList [rowsC rs]) ε = .ok (.new (.lst (rs.map rowC))) ε := fun ε => by
        have : (rs.map rowC).length ≤ sizeLine := by rw [List.length_map]; exact sz_of (by have := rl rs hr; omega)
        simp [gList, rowsC, outR]
      have er : rowsC rs = .list (rs.map rowC) := rfl
      generalize plD ts ys = P at *
      generalize ct.map rowsC = F at *
      exact ⟨[some (.fro P), some (.fro (.list F)), none, some (.fro (rowsC rs)), none, none, none, none, none, none, none, none], [some (.fro P), some (.fro (.list F)), none, some (.fro (rowsC rs)), none, none, none, none, none, none, none, none], by simp, by simp [e]; exact er.symm, by simp⟩) (by simpa using sz_of (by omega))
  rw [List.nil_append] at c1
  have inner : ∀ (ct1 : List (List RX)) (_ : CtOk ts ct1) (x3 x4 x5 x6 x8 x9 x10 : Option SV), ∃ ct2 z3 z5 z6 z8 z9 z10, CtOk ts ct2 ∧ Vtw [some (.fro (plD ts ys)), some (.fro (.list (ct.map rowsC))), some (.own (.lst (ct1.map rowsC))), x3, x4, x5, x6, none, x8, x9, x10, none] = .nx [some (.fro (plD ts ys)), some (.fro (.list (ct.map rowsC))), some (.own (.lst (ct2.map rowsC))), z3, x4, z5, z6, none, z8, z9, z10, none] := fun ct1 h1 x3 x4 x5 x6 x8 x9 x10 => by
    obtain ⟨ε', e2, ct2, z3, z5, z6, z8, z9, z10, h2, rfl⟩ := loop_nx (p := .nm 5) (body := Wt) (fun _ ε => ∃ ct2 x3 x5 x6 x8 x9 x10, CtOk ts ct2 ∧ ε = [some (.fro (plD ts ys)), some (.fro (.list (ct.map rowsC))), some (.own (.lst (ct2.map rowsC))), x3, x4, x5, x6, none, x8, x9, x10, none])
      (ds := ys.map tieD) (k := 0) (ε := [some (.fro (plD ts ys)), some (.fro (.list (ct.map rowsC))), some (.own (.lst (ct1.map rowsC))), x3, x4, x5, x6, none, x8, x9, x10, none]) ⟨ct1, x3, x5, x6, x8, x9, x10, h1, rfl⟩ (fun i d ε hi hI => by
        obtain ⟨ct2, x3, x5, x6, x8, x9, x10, h2, rfl⟩ := hI
        obtain ⟨y, hyi, rfl⟩ := get_map hi
        obtain ⟨ct3, z3, z6, z8, z9, z10, h3, e⟩ := wt_ok hT hl hy hg (.list (ct.map rowsC)) h2 (List.mem_of_getElem? hyi) x3 x4 x6 x8 x9 x10
        exact ⟨[some (.fro (plD ts ys)), some (.fro (.list (ct.map rowsC))), some (.own (.lst (ct2.map rowsC))), x3, x4, some (.fro (tieD y)), x6, none, x8, x9, x10, none], _, by simp, e, ct3, z3, _, z6, z8, z9, z10, h3, rfl⟩)
    refine ⟨ct2, z3, z5, z6, z8, z9, z10, h2, ?_⟩
    have it : itemsD (.tuple (ys.map tieD)) = some (ys.map tieD) := rfl
    generalize plD ts ys = P at *
    generalize ct.map rowsC = F at *
    generalize ct1.map rowsC = F1 at *
    generalize ct2.map rowsC = F2 at *
    generalize ys.map tieD = YD at *
    have fi : Vtwi [some (.fro P), some (.fro (.list F)), some (.own (.lst F1)), x3, x4, x5, x6, none, x8, x9, x10, none] = .ok YD [some (.fro P), some (.fro (.list F)), some (.own (.lst F1)), x3, x4, x5, x6, none, x8, x9, x10, none] := by simp [Vtwi, P1, it]
    rw [Vtw_is, x_for, fi, x_sok, e2]
  obtain ⟨ε', e2, ct2, z3, z4, z5, z6, z8, z9, z10, h2, rfl⟩ := loop_nx (p := .nm 4) (body := Vtw) (fun _ ε => ∃ ct2 x3 x4 x5 x6 x8 x9 x10, CtOk ts ct2 ∧ ε = [some (.fro (plD ts ys)), some (.fro (.list (ct.map rowsC))), some (.own (.lst (ct2.map rowsC))), x3, x4, x5, x6, none, x8, x9, x10, none])
    (ds := rngD 0 61) (k := 0) (ε := [some (.fro (plD ts ys)), some (.fro (.list (ct.map rowsC))), some (.own (.lst (ct.map rowsC))), none, none, none, none, none, none, none, none, none]) ⟨ct, none, none, none, none, none, none, none, hC, rfl⟩ (fun i d ε hi hI => by
      obtain ⟨ct2, x3, x4, x5, x6, x8, x9, x10, h2, rfl⟩ := hI
      obtain ⟨ct3, z3, z5, z6, z8, z9, z10, h3, e⟩ := inner ct2 h2 x3 (some (.fro d)) x5 x6 x8 x9 x10
      exact ⟨[some (.fro (plD ts ys)), some (.fro (.list (ct.map rowsC))), some (.own (.lst (ct2.map rowsC))), x3, some (.fro d), x5, x6, none, x8, x9, x10, none], _, by simp, e, ct3, _, _, _, _, _, _, _, h3, rfl⟩)
  refine ⟨ct2, h2, ?_⟩
  have f1 : Vt1 [some (.fro (plD ts ys)), some (.own (.lst (ct.map rowsC))), none, none, none, none, none, none, none, none, none, none] = .nx [some (.fro (plD ts ys)), some (.fro (.list (ct.map rowsC))), some (.own (.lst (ct.map rowsC))), none, none, none, none, none, none, none, none, none] := by
    generalize plD ts ys = P at *
    generalize ct.map rowsC = F at *
    simp [Vt1, c1]
  generalize plD ts ys = P at *
  generalize ct.map rowsC = F at *
  generalize ct2.map rowsC = F2 at *
  have f2 : Vt2 [some (.fro P), some (.fro (.list F)), some (.own (.lst F)), none, none, none, none, none, none, none, none, none] = .nx [some (.fro P), some (.fro (.list F)), some (.own (.lst F2)), z3, z4, z5, z6, none, z8, z9, z10, none] := by
    simp [Vt2_is, e2]
  unfold F_law_tied
  exact fn_at (i := 2) (E := [some (.fro P), some (.own (.lst F)), none, none, none, none, none, none, none, none, none, none]) rfl (by simp) rfl (by rw [B_law_tied_is, x_seq, f1, x_q1, x_seq, f2, x_q1]; simp [Vt3]; rfl) (by simp) rfl rfl
/-- handed in, the content staying its owner's -/
theorem e_handedO {ts : List M5.TT} (hT : GoodT ts) (hl : ts.length ≤ 10) {ct : List (List RX)} (hC : CtOk ts ct) {T : Int} {L : List D} (h : Bx T L) (hB : T < 600000) :
    ∃ (L' : List D) (HD : D) (R : RV), Bx (T + 1) L' ∧ Handed ct HD ∧ (R = .fro HD ∨ ∃ l, HD = .list l ∧ R = .new (.lst l)) ∧ F_law_handedO [sB L, some (.own (.lst (ct.map rowsC)))] = .ok R [sB L', some (.own (.lst (ct.map rowsC)))] := by
  obtain ⟨q, L', q0, q1, h1, e1⟩ := takeB (m := 3) h (by omega) (by omega) (by omega)
  have rl : ∀ rs ∈ ct, rs.length ≤ 10 ∧ ∀ r ∈ rs, r.2.length ≤ 100 := fun rs hr => by
    obtain ⟨k, hk⟩ := List.getElem?_of_mem hr
    have hkt : k < ts.length := by rw [← hC.l]; exact lt_get hk
    have ro := hC.g k _ rs (List.getElem?_eq_getElem hkt) hk
    have gc := (hT.g _ (List.getElem_mem hkt)).2.l
    exact ⟨ro.l, fun r hr => by have := (ro.r r hr).l; omega⟩
  have inner : ∀ (g : List D → Option Out) (f : RX → D), (∀ r : RX, r.2.length ≤ 100 → ∀ ε : En, ((outR (g [rowC r]) ε).bind mUnnew).bind mFrz = .ok (f r) ε) → ∀ rs ∈ ct, ∀ w : Int,
      lcLoop (.nm 4) [4] mYes (fE (oE (mCallB g (msCons (oE (mVar 4)) msNil)))) (rs.map rowC) [] [sB L', some (.own (.lst (ct.map rowsC))), fI w, some (.fro (rowsC rs)), none] = .ok (rs.map f) [sB L', some (.own (.lst (ct.map rowsC))), fI w, some (.fro (rowsC rs)), none] := fun g f hgf rs hr w => by
    have c := lc_map (p := .nm 4) (vs := [4]) (m := fE (oE (mCallB g (msCons (oE (mVar 4)) msNil)))) (g := rowC) (f := f) (ε := [sB L', some (.own (.lst (ct.map rowsC))), fI w, some (.fro (rowsC rs)), none]) (xs := rs) (acc := [])
      (fun r hrr => ⟨[sB L', some (.own (.lst (ct.map rowsC))), fI w, some (.fro (rowsC rs)), some (.fro (rowC r))], [sB L', some (.own (.lst (ct.map rowsC))), fI w, some (.fro (rowsC rs)), some (.fro (rowC r))], by simp, by
        generalize ct.map rowsC = F at *
        simp [hgf r ((rl rs hr).2 r hrr)], by simp⟩) (by have := (rl rs hr).1; simpa using sz_of (by omega))
    rw [List.nil_append] at c
    exact c
  have tpl : ∀ r : RX, r.2.length ≤ 100 → ∀ ε : En, ((outR (gTuple [rowC r]) ε).bind mUnnew).bind mFrz = .ok (rowC r) ε := fun r _ ε => by simp [gTuple, rowC, outR]
  have lst : ∀ r : RX, r.2.length ≤ 100 → ∀ ε : En, ((outR (gList [rowC r]) ε).bind mUnnew).bind mFrz = .ok (rowL r) ε := fun r _ ε => by simp [gList, rowC, rowL, outR]
  have ei : ∀ rs : List RX, itemsD (rowsC rs) = some (rs.map rowC) := fun _ => rfl
  have hcl := hC.l
  have outer : ∀ (m : M D) (f : List RX → D) (w : Int), (∀ rs ∈ ct, m [sB L', some (.own (.lst (ct.map rowsC))), fI w, some (.fro (rowsC rs)), none] = .ok (f rs) [sB L', some (.own (.lst (ct.map rowsC))), fI w, some (.fro (rowsC rs)), none]) →
      lcLoopO 1 (ct.map rowsC).length (.nm 3) [3] mYes m (ct.map rowsC).length [] [sB L', some (.own (.lst (ct.map rowsC))), fI w, none, none] = .ok (ct.map f) [sB L', some (.own (.lst (ct.map rowsC))), fI w, none, none] := fun m f w hm => by
    have c := lcO_map (i := 1) (p := .nm 3) (vs := [3]) (m := m) (g := rowsC) (f := f) (ε := [sB L', some (.own (.lst (ct.map rowsC))), fI w, none, none]) (xs := ct) rfl (sz_of (by omega))
      (fun rs hr => ⟨_, _, by simp, hm rs hr, by simp⟩) ct.length (Nat.le_refl _)
    rw [Nat.sub_self, List.take_zero, List.map_nil] at c
    rw [List.length_map]
    exact c
  have la : ∀ (F : List D) (a b c d : Option SV), M3.lstAt [a, some (.own (.lst F)), b, c, d] 1 = some F := fun _ _ _ _ _ => rfl
  have : q = 0 ∨ q = 1 ∨ q = 2 := by omega
  rcases this with rfl | rfl | rfl
  · have c := outer (fE (oE (mLc (mIt (fE (oE (mVar 3)))) (.nm 4) [4] mYes (fE (oE (mCallB gTuple (msCons (oE (mVar 4)) msNil))))))) rowsC 0 (fun rs hr => by
      have c := inner gTuple rowC tpl rs hr 0
      generalize ct.map rowsC = F at *
      have ec : rowsC rs = .list (rs.map rowC) := rfl
      simp [ei, c]
      rw [ec])
    refine ⟨L', H0 ct, .new (.lst (ct.map rowsC)), h1, .inl rfl, .inr ⟨_, rfl, rfl⟩, ?_⟩
    generalize ct.map rowsC = F at *
    simp [F_law_handedO, B_law_handedO, e1, gEq_int, la, c]
  · have c := outer (fE (oE (mLc (mIt (fE (oE (mVar 3)))) (.nm 4) [4] mYes (fE (oE (mCallB gList (msCons (oE (mVar 4)) msNil))))))) (fun rs => .list (rs.map rowL)) 1 (fun rs hr => by
      have c := inner gList rowL lst rs hr 1
      generalize ct.map rowsC = F at *
      simp [ei, c])
    refine ⟨L', H1 ct, .new (.lst (ct.map fun rs => .list (rs.map rowL))), h1, .inr (.inl rfl), .inr ⟨_, rfl, rfl⟩, ?_⟩
    generalize ct.map (fun rs => PyData.list (rs.map rowL)) = G at *
    generalize ct.map rowsC = F at *
    simp [F_law_handedO, B_law_handedO, e1, gEq_int, la, c]
  · have c := outer (fE (oE (mCallB gTuple (msCons (oE (mLc (mIt (fE (oE (mVar 3)))) (.nm 4) [4] mYes (fE (oE (mCallB gTuple (msCons (oE (mVar 4)) msNil)))))) msNil)))) (fun rs => .tuple (rs.map rowC)) 2 (fun rs hr => by
      have c := inner gTuple rowC tpl rs hr 2
      have hz : (rs.map rowC).length ≤ sizeLine := by rw [List.length_map]; exact sz_of (by have := (rl rs hr).1; omega)
      have ei2 := ei rs
      generalize ct.map rowsC = F at *
      generalize rs.map rowC = G at *
      simp [ei2, c, gTuple, outR, hz])
    have hz : (ct.map fun rs => PyData.tuple (rs.map rowC)).length ≤ sizeLine := by rw [List.length_map]; exact sz_of (by omega)
    refine ⟨L', H2 ct, .fro (.tuple (ct.map fun rs => .tuple (rs.map rowC))), h1, .inr (.inr rfl), .inl rfl, ?_⟩
    generalize ct.map (fun rs => PyData.tuple (rs.map rowC)) = G at *
    generalize ct.map rowsC = F at *
    simp [F_law_handedO, B_law_handedO, e1, gEq_int, la, c, gTuple, outR, hz]
end GC

namespace GC
open PySem PySem.Spec L2 M3 M4 M5
open PyProof.Rows hiding St
def Rr1 : Sm := (sSet 1 (mCall 2 F_law_tables (msCons (oE (mVar 0)) (msCons (oE (mC (.int 5))) msNil))))
def Rr2 : Sm := (sSet 2 (mTup (dsCons (fE (oE (mVar 1))) (dsCons (fE (oE (mCall 3 F_law_ties (msCons (oE (mVar 0)) (msCons (oE (mVar 1)) (msCons (oE (mC (.int 10))) msNil)))))) (dsCons (fE (oE (mTup dsNil))) dsNil)))))
def Rr3 : Sm := (sSet 3 (mCall 4 F_law_content (msCons (oE (mVar 0)) (msCons (oE (mVar 1)) (msCons (oE (mOp gIx (oE (mVar 2)) (oE (mC (.int 1))))) (msCons (oE (mC (.int 9))) msNil))))))
def Rr4 : Sm := (sIf (mBl (mOp (bo gEq) (oE (mCall 2 F_law_take (msCons (oE (mVar 0)) (msCons (oE (mC (.int 2))) msNil)))) (oE (mC (.int 0))))) (sSet 3 (mCall 2 F_law_tied (msCons (oE (mVar 2)) (msCons (oE (mVar 3)) msNil)))) sNext)
def Rr5 : Sm := (sFor (mRng1 (msCons (oE (mC (.int 4))) msNil)) (.nm 4) (sSeq (sSet 5 (mCall 2 F_law_handedO (msCons (oE (mVar 0)) (msCons (oE (mVar 3)) msNil))))
    (sSeq (sSet 6 (mCallB gRepr (msCons (oE (mLst (dsCons (fE (oE (mVar 2))) (dsCons (fE (oE (mVar 5))) dsNil)))) msNil)))
    (sSeq (sIf (mOr (mNot (mTru (oE (mCall 3 F_law_told_right (msCons (oE (mVar 2)) (msCons (oE (mVar 3)) (msCons (oE (mVar 5)) msNil))))))) (mBl (mOp (bo gNe) (oE (mCallB gRepr (msCons (oE (mLst (dsCons (fE (oE (mVar 2))) (dsCons (fE (oE (mVar 5))) dsNil)))) msNil))) (oE (mVar 6))))) (sRet (mC (.bool false))) sNext)
    (sSeq (sSet 7 (mCall 2 F_law_take (msCons (oE (mVar 0)) (msCons (oE (mCallB gLen (msCons (oE (mVar 3)) msNil))) msNil))))
    (sSeq (sSet 8 (mCall 2 F_law_take (msCons (oE (mVar 0)) (msCons (oE (mOp gAdd (oE (mCallB gLen (msCons (oE (mOp gIx (oE (mVar 3)) (oE (mVar 7)))) msNil))) (oE (mC (.int 1))))) msNil))))
    (sSetItem 3 (oE (mVar 7)) (fE (oE (mOp gAdd (oE (mSl gSl (oE (mOp gIx (oE (mVar 3)) (oE (mVar 7)))) mNoPart (mPart (oE (mVar 8))))) (oE (mSl gSl (oE (mOp gIx (oE (mVar 3)) (oE (mVar 7)))) (mPart (oE (mOp gAdd (oE (mVar 8)) (oE (mC (.int 1)))))) mNoPart))))))))))))
def Rr6 : Sm := (sRet (mC (.bool true)))
theorem B_law_right_is : B_law_right = (sSeq Rr1 (sSeq Rr2 (sSeq Rr3 (sSeq Rr4 (sSeq Rr5 Rr6))))) := rfl
def Rf : Sm := (sSeq (sSet 5 (mCall 2 F_law_handedO (msCons (oE (mVar 0)) (msCons (oE (mVar 3)) msNil))))
    (sSeq (sSet 6 (mCallB gRepr (msCons (oE (mLst (dsCons (fE (oE (mVar 2))) (dsCons (fE (oE (mVar 5))) dsNil)))) msNil)))
    (sSeq (sIf (mOr (mNot (mTru (oE (mCall 3 F_law_told_right (msCons (oE (mVar 2)) (msCons (oE (mVar 3)) (msCons (oE (mVar 5)) msNil))))))) (mBl (mOp (bo gNe) (oE (mCallB gRepr (msCons (oE (mLst (dsCons (fE (oE (mVar 2))) (dsCons (fE (oE (mVar 5))) dsNil)))) msNil))) (oE (mVar 6))))) (sRet (mC (.bool false))) sNext)
    (sSeq (sSet 7 (mCall 2 F_law_take (msCons (oE (mVar 0)) (msCons (oE (mCallB gLen (msCons (oE (mVar 3)) msNil))) msNil))))
    (sSeq (sSet 8 (mCall 2 F_law_take (msCons (oE (mVar 0)) (msCons (oE (mOp gAdd (oE (mCallB gLen (msCons (oE (mOp gIx (oE (mVar 3)) (oE (mVar 7)))) msNil))) (oE (mC (.int 1))))) msNil))))
    (sSetItem 3 (oE (mVar 7)) (fE (oE (mOp gAdd (oE (mSl gSl (oE (mOp gIx (oE (mVar 3)) (oE (mVar 7)))) mNoPart (mPart (oE (mVar 8))))) (oE (mSl gSl (oE (mOp gIx (oE (mVar 3)) (oE (mVar 7)))) (mPart (oE (mOp gAdd (oE (mVar 8)) (oE (mC (.int 1)))))) mNoPart)))))))))))
theorem Rr5_is : Rr5 = sFor (mRng1 (msCons (oE (mC (.int 4))) msNil)) (.nm 4) Rf := rfl
def Rf1 : Sm := (sSet 5 (mCall 2 F_law_handedO (msCons (oE (mVar 0)) (msCons (oE (mVar 3)) msNil))))
def Rf2 : Sm := (sSet 6 (mCallB gRepr (msCons (oE (mLst (dsCons (fE (oE (mVar 2))) (dsCons (fE (oE (mVar 5))) dsNil)))) msNil)))
def Rf3 : Sm := (sIf (mOr (mNot (mTru (oE (mCall 3 F_law_told_right (msCons (oE (mVar 2)) (msCons (oE (mVar 3)) (msCons (oE (mVar 5)) msNil))))))) (mBl (mOp (bo gNe) (oE (mCallB gRepr (msCons (oE (mLst (dsCons (fE (oE (mVar 2))) (dsCons (fE (oE (mVar 5))) dsNil)))) msNil))) (oE (mVar 6))))) (sRet (mC (.bool false))) sNext)
def Rf4 : Sm := (sSet 7 (mCall 2 F_law_take (msCons (oE (mVar 0)) (msCons (oE (mCallB gLen (msCons (oE (mVar 3)) msNil))) msNil))))
def Rf5 : Sm := (sSet 8 (mCall 2 F_law_take (msCons (oE (mVar 0)) (msCons (oE (mOp gAdd (oE (mCallB gLen (msCons (oE (mOp gIx (oE (mVar 3)) (oE (mVar 7)))) msNil))) (oE (mC (.int 1))))) msNil))))
def Rf6 : Sm := (sSetItem 3 (oE (mVar 7)) (fE (oE (mOp gAdd (oE (mSl gSl (oE (mOp gIx (oE (mVar 3)) (oE (mVar 7)))) mNoPart (mPart (oE (mVar 8))))) (oE (mSl gSl (oE (mOp gIx (oE (mVar 3)) (oE (mVar 7)))) (mPart (oE (mOp gAdd (oE (mVar 8)) (oE (mC (.int 1)))))) mNoPart))))))
theorem Rf_is : Rf = sSeq Rf1 (sSeq Rf2 (sSeq Rf3 (sSeq Rf4 (sSeq Rf5 Rf6)))) := rfl
theorem gNe_same (z : Str) : gNe (.str z) (.str z) = some false := by
  have h := gEq_same z
  unfold gEq at h
  unfold gNe
  split
  · next c => rw [if_pos c] at h; injection h with h; rw [h]; rfl
  · next c => rw [if_neg c] at h; rw [h]; rfl
theorem rows_sub {cols : List TC} {rs rs' : List RX} (h : RowsOk cols rs) (q : rs'.Sublist rs) : RowsOk cols rs' :=
  ⟨fun r hr => h.r r (q.subset hr), h.up.sublist (q.map _), Nat.le_trans q.length_le h.l⟩
theorem cut_sub2 {α : Type} (xs : List α) (k : Nat) : (xs.take k ++ xs.drop (k + 1)).Sublist xs := by
  have h := (List.Sublist.refl (xs.take k)).append (List.drop_sublist 1 (xs.drop k))
  rw [List.take_append_drop, List.drop_drop] at h
  exact h
theorem map_cut (rs : List RX) (k : Nat) : (rs.map rowC).take k ++ (rs.map rowC).drop (k + 1) = (rs.take k ++ rs.drop (k + 1)).map rowC := by
  rw [List.map_append, List.map_take, List.map_drop]
section
variable {ts : List M5.TT} (hT : GoodT ts) (hl : ts.length ≤ 6) (hne : ts ≠ []) {ys : List TY} (hy : ys.length ≤ 11) (hg : ∀ y ∈ ys, GoodY ts y)
include hT hl hne hy hg
theorem rf_ok {ct : List (List RX)} (hC : CtOk ts ct) {T : Int} {L : List D} (h : Bx T L) (hB : T < 100000) (x4 x5 x6 x7 x8 : Option SV) :
    ∃ (L' : List D) (ct' : List (List RX)) (z5 z6 z7 z8 : Option SV), Bx (T + 3) L' ∧ CtOk ts ct' ∧ Rf [sB L, fT ts, some (.fro (plD ts ys)), some (.own (.lst (ct.map rowsC))), x4, x5, x6, x7, x8] = .nx [sB L', fT ts, some (.fro (plD ts ys)), some (.own (.lst (ct'.map rowsC))), x4, z5, z6, z7, z8] := by
  obtain ⟨L1, HD, R, h1, hH, hR, e1⟩ := e_handedO hT (by omega) hC h (by omega)
  obtain ⟨rg, hd⟩ := handed_hd (ts := ts) hH
  have ok := two_okd hT hl hg hy hC hH
  obtain ⟨Z, hZ⟩ : ∃ Z : Str, Z = PyData.shown (.list [plD ts ys, HD]) := ⟨_, rfl⟩
  have gr := gRepr_ok ok
  rw [← hZ] at gr
  obtain ⟨f, hf⟩ := at_all hC hg
  have et := e_told hT (by omega) (by omega) hg hC hf hd
  have h2s := M4.two_le
  have hcl := hC.l
  have hpos : 0 < ts.length := List.length_pos_iff.mpr hne
  have f1 : ∃ X, Rf1 [sB L, fT ts, some (.fro (plD ts ys)), some (.own (.lst (ct.map rowsC))), x4, x5, x6, x7, x8] = .nx [sB L1, fT ts, some (.fro (plD ts ys)), some (.own (.lst (ct.map rowsC))), x4, X, x6, x7, x8] ∧ Rf2 [sB L1, fT ts, some (.fro (plD ts ys)), some (.own (.lst (ct.map rowsC))), x4, X, x6, x7, x8] = .nx [sB L1, fT ts, some (.fro (plD ts ys)), some (.own (.lst (ct.map rowsC))), x4, some (.fro HD), fS Z, x7, x8] := by
    generalize plD ts ys = P at *
    generalize ct.map rowsC = F at *
    rcases hR with rfl | ⟨l, rfl, rfl⟩
    · exact ⟨_, by simp [Rf1, e1]; rfl, by simp [Rf2, gr, h2s]⟩
    · exact ⟨_, by simp [Rf1, e1]; rfl, by simp [Rf2, gr, h2s]⟩
  obtain ⟨X, f1, f2⟩ := f1
  have gn := gNe_same Z
  have f3 : Rf3 [sB L1, fT ts, some (.fro (plD ts ys)), some (.own (.lst (ct.map rowsC))), x4, some (.fro HD), fS Z, x7, x8] = .nx [sB L1, fT ts, some (.fro (plD ts ys)), some (.own (.lst (ct.map rowsC))), x4, some (.fro HD), fS Z, x7, x8] := by
    generalize plD ts ys = P at *
    generalize ct.map rowsC = F at *
    simp [Rf3, et, gr, h2s, gn]
  obtain ⟨q, L2, q0, q1, h2, e2⟩ := takeB (m := (ct.length : Int)) h1 (by omega) (by omega) (by omega)
  obtain ⟨k, rfl⟩ : ∃ k : Nat, q = (k : Int) := ⟨q.toNat, by omega⟩
  have hk : k < ct.length := by omega
  have hkt : k < ts.length := by omega
  have hr : ct[k]? = some ct[k] := List.getElem?_eq_getElem hk
  have ht : ts[k]? = some ts[k] := List.getElem?_eq_getElem hkt
  generalize ct[k] = rs at *
  generalize ts[k] = t at *
  have ro := hC.g k t rs ht hr
  have rol := ro.l
  have gl : gLen [.list (ct.map rowsC)] = some (.val (.int (ct.length : Int))) := by simp [gLen]
  have f4 : Rf4 [sB L1, fT ts, some (.fro (plD ts ys)), some (.own (.lst (ct.map rowsC))), x4, some (.fro HD), fS Z, x7, x8] = .nx [sB L2, fT ts, some (.fro (plD ts ys)), some (.own (.lst (ct.map rowsC))), x4, some (.fro HD), fS Z, fI k, x8] := by
    generalize plD ts ys = P at *
    generalize ct.map rowsC = F at *
    simp [Rf4, gl, e2]
  have i1 : gIx (.list (ct.map rowsC)) (.int (k : Int)) = some (.val (rowsC rs)) := gIx_ln (by rw [List.getElem?_map, hr]; rfl)
  obtain ⟨p, L3, p0, p1, h3, e3⟩ := takeB (m := (rs.length : Int) + 1) h2 (by omega) (by omega) (by omega)
  obtain ⟨j, rfl⟩ : ∃ j : Nat, p = (j : Int) := ⟨p.toNat, by omega⟩
  have gl2 : gLen [rowsC rs] = some (.val (.int (rs.length : Int))) := by simp [gLen, rowsC]
  have ga1 : gAdd (.int (rs.length : Int)) (.int 1) = some (.val (.int ((rs.length : Int) + 1))) := gAdd_i _ _
  have f5 : Rf5 [sB L2, fT ts, some (.fro (plD ts ys)), some (.own (.lst (ct.map rowsC))), x4, some (.fro HD), fS Z, fI k, x8] = .nx [sB L3, fT ts, some (.fro (plD ts ys)), some (.own (.lst (ct.map rowsC))), x4, some (.fro HD), fS Z, fI k, fI j] := by
    generalize plD ts ys = P at *
    generalize ct.map rowsC = F at *
    generalize rowsC rs = RR at *
    simp [Rf5, i1, gl2, ga1, e3]
  have ixk : ixN (ct.map rowsC).length (k : Int) = some k := by
    rw [List.length_map]
    have := ixN_lt (n := ct.length) (k := (k : Int)) (by omega) (by omega)
    simpa using this
  obtain ⟨rs', hrs'⟩ : ∃ rs', rs' = rs.take j ++ rs.drop (j + 1) := ⟨_, rfl⟩
  have ro' : RowsOk t.2 rs' := by rw [hrs']; exact rows_sub ro (cut_sub2 rs j)
  have s1 : gSl (rowsC rs) none (some (j : Int)) = some (.newl ((rs.map rowC).take j)) := by
    rw [show rowsC rs = .list (rs.map rowC) from rfl, gSl_l, cut_to (rs.map rowC) (p := (j : Int)) (by omega), Int.toNat_natCast]
  have s2 : gSl (rowsC rs) (some ((j : Int) + 1)) none = some (.newl ((rs.map rowC).drop (j + 1))) := by
    rw [show rowsC rs = .list (rs.map rowC) from rfl, gSl_l, cut_from (rs.map rowC) (p := (j : Int) + 1) (by omega), show ((j : Int) + 1).toNat = j + 1 by omega]
  have ga2 : gAdd (.int (j : Int)) (.int 1) = some (.val (.int ((j : Int) + 1))) := gAdd_i _ _
  have s3 : gAdd (.list ((rs.map rowC).take j)) (.list ((rs.map rowC).drop (j + 1))) = some (.newl (rs'.map rowC)) := by
    rw [gAdd_ll (by rw [List.length_take, List.length_drop, List.length_map]; exact sz_of (by omega)), map_cut, ← hrs']
  have st : (ct.set k rs').map rowsC = (ct.map rowsC).set k (.list (rs'.map rowC)) := List.map_set
  have f6 : Rf6 [sB L3, fT ts, some (.fro (plD ts ys)), some (.own (.lst (ct.map rowsC))), x4, some (.fro HD), fS Z, fI k, fI j] = .nx [sB L3, fT ts, some (.fro (plD ts ys)), some (.own (.lst ((ct.set k rs').map rowsC))), x4, some (.fro HD), fS Z, fI k, fI j] := by
    rw [st]
    generalize plD ts ys = P at *
    generalize ct.map rowsC = F at *
    generalize rowsC rs = RR at *
    generalize (rs.map rowC).take j = A1 at *
    generalize (rs.map rowC).drop (j + 1) = A2 at *
    generalize rs'.map rowC = A3 at *
    simp [Rf6, i1, s1, s2, ga2, s3, ixk]
  refine ⟨L3, ct.set k rs', some (.fro HD), fS Z, fI k, fI j, h3.mono (by omega), ct_set hC ht ro', ?_⟩
  rw [Rf_is, x_seq, f1, x_q1, x_seq, f2, x_q1, x_seq, f3, x_q1, x_seq, f4, x_q1, x_seq, f5, x_q1, f6]
end
theorem e_right {L : List D} (h : Bx 0 L) : ∃ L', F_law_right [sB L] = .ok (.fro (.bool true)) [sB L'] := by
  obtain ⟨L1, ts, h1, hne, hl, hT, e1⟩ := tablesC h (by omega) 5 (by omega) (by omega)
  have hl5 : ts.length ≤ 6 := by omega
  obtain ⟨L2, ys, h2, hy, hn, hg, e2⟩ := tiesC hT hne (by omega) h1 (by omega) 10 (by omega) (by omega)
  have hy10 : ys.length ≤ 11 := by omega
  obtain ⟨L3, ct, h3, hC, e3⟩ := contentC hT (by omega) hg (by omega) h2 (by omega)
  obtain ⟨q, L4, q0, q1, h4, e4⟩ := takeB (m := 2) h3 (by omega) (by omega) (by omega)
  obtain ⟨ct1, hC1, e5⟩ := e_tied hT (by omega) (by omega) hg hC
  have h0s : (0 : Nat) ≤ sizeLine := sz_of (by omega)
  have h3s : (3 : Nat) ≤ sizeLine := sz_of (by omega)
  have P1 := (plD_pl ts ys).g1
  have f1 : Rr1 [sB L, none, none, none, none, none, none, none, none] = .nx [sB L1, fT ts, none, none, none, none, none, none, none] := by simp [Rr1, e1]
  have f2 : Rr2 [sB L1, fT ts, none, none, none, none, none, none, none] = .nx [sB L2, fT ts, some (.fro (plD ts ys)), none, none, none, none, none, none] := by
    unfold plD
    simp [Rr2, e2, h0s, h3s]
  have f3 : Rr3 [sB L2, fT ts, some (.fro (plD ts ys)), none, none, none, none, none, none] = .nx [sB L3, fT ts, some (.fro (plD ts ys)), some (.own (.lst (ct.map rowsC))), none, none, none, none, none] := by
    generalize plD ts ys = P at *
    generalize ct.map rowsC = F at *
    simp [Rr3, P1, e3]
  have f4 : ∃ ct2, CtOk ts ct2 ∧ Rr4 [sB L3, fT ts, some (.fro (plD ts ys)), some (.own (.lst (ct.map rowsC))), none, none, none, none, none] = .nx [sB L4, fT ts, some (.fro (plD ts ys)), some (.own (.lst (ct2.map rowsC))), none, none, none, none, none] := by
    by_cases hq : q = 0
    · refine ⟨ct1, hC1, ?_⟩
      subst hq
      generalize plD ts ys = P at *
      generalize ct.map rowsC = F at *
      generalize ct1.map rowsC = F1 at *
      simp [Rr4, e4, gEq_int, e5]
    · refine ⟨ct, hC, ?_⟩
      have : q = 1 := by omega
      subst this
      generalize plD ts ys = P at *
      generalize ct.map rowsC = F at *
      simp [Rr4, e4, gEq_int]
  obtain ⟨ct2, hC2, f4⟩ := f4
  obtain ⟨ε', e6, L7, ct3, y4, y5, y6, y7, y8, h7, hC3, rfl⟩ := loop_nx (p := .nm 4) (body := Rf) (fun i ε => ∃ (L' : List D) (ct : List (List RX)) (x4 x5 x6 x7 x8 : Option SV), Bx (2601 + 3 * (i : Int)) L' ∧ CtOk ts ct ∧ ε = [sB L', fT ts, some (.fro (plD ts ys)), some (.own (.lst (ct.map rowsC))), x4, x5, x6, x7, x8])
    (ds := rngD 0 4) (k := 0) (ε := [sB L4, fT ts, some (.fro (plD ts ys)), some (.own (.lst (ct2.map rowsC))), none, none, none, none, none]) ⟨L4, ct2, none, none, none, none, none, h4.mono (by omega), hC2, rfl⟩ (fun i d ε hi hI => by
      obtain ⟨L', ct, x4, x5, x6, x7, x8, h2, hC, rfl⟩ := hI
      have hil : i < 4 := by have := lt_get hi; simpa [rngD] using this
      obtain ⟨L3, ct3, z5, z6, z7, z8, h3, hC3, e⟩ := rf_ok hT hl5 hne hy10 hg hC h2 (by omega) (some (.fro d)) x5 x6 x7 x8
      exact ⟨[sB L', fT ts, some (.fro (plD ts ys)), some (.own (.lst (ct.map rowsC))), some (.fro d), x5, x6, x7, x8], _, by simp, e, L3, ct3, _, _, _, _, _, h3.mono (by omega), hC3, rfl⟩)
  have f5 : Rr5 [sB L4, fT ts, some (.fro (plD ts ys)), some (.own (.lst (ct2.map rowsC))), none, none, none, none, none] = .nx [sB L7, fT ts, some (.fro (plD ts ys)), some (.own (.lst (ct3.map rowsC))), y4, y5, y6, y7, y8] := by
    generalize plD ts ys = P at *
    generalize ct2.map rowsC = F2 at *
    generalize ct3.map rowsC = F3 at *
    simp [Rr5_is, e6]
  refine ⟨L7, ?_⟩
  unfold F_law_right
  refine fn_rt (E := [sB L, none, none, none, none, none, none, none, none]) (ε' := [sB L7, fT ts, some (.fro (plD ts ys)), some (.own (.lst (ct3.map rowsC))), y4, y5, y6, y7, y8]) rfl (by simp) rfl ?_ rfl
  rw [B_law_right_is, x_seq, f1, x_q1, x_seq, f2, x_q1, x_seq, f3, x_q1, x_seq, f4, x_q1, x_seq, f5, x_q1]
  simp [Rr6]
theorem law_true (ns : List Int) (h : ns.length ≤ 63) : ∃ ε', F_law [some (.scr ns)] = .ok (.fro (.bool true)) ε' := by
  obtain ⟨n, hn⟩ : ∃ n : Int, n = if (ns.length : Int) < 4 then (ns.length : Int) else 4 := ⟨_, rfl⟩
  have gm : gMin [.int 4, .int (ns.length : Int)] = some (.val (.int n)) := by rw [hn]; rfl
  have n0 : 0 ≤ n ∧ n ≤ 4 := by rw [hn]; split <;> omega
  have hrn : -4611686018427387904 ≤ 1 + n ∧ 1 + n < 4611686018427387904 := by omega
  have c := lc_map (p := .nm 1) (vs := [1]) (m := fE (oE (mCall1N F_law_right (mCall 2 F_law_box (msCons (oE (mVar 0)) (msCons (oE (mVar 1)) msNil)))))) (g := fun k : Nat => PyData.int (0 + (k : Int))) (f := fun _ => PyData.bool true)
    (ε := [some (.scr ns), none]) (xs := List.range (1 + n).toNat) (acc := [])
    (fun k hk => by
      have hk := List.mem_range.mp hk
      obtain ⟨L, hL, e1⟩ := boxC ns k (by omega)
      obtain ⟨L', e2⟩ := e_right hL
      exact ⟨[some (.scr ns), fI k], [some (.scr ns), fI k], by simp, by simp [mCall1N, e1, e2], by simp⟩)
    (by rw [List.length_range, List.length_nil, Nat.zero_add]; exact sz_of (by omega))
  have er : ((List.range (1 + n).toNat).map fun k : Nat => PyData.int (0 + (k : Int))) = rngD 0 (1 + n).toNat := rfl
  have ec : ((List.range (1 + n).toNat).map fun _ : Nat => PyData.bool true) = List.replicate (1 + n).toNat (PyData.bool true) := by rw [List.map_const', List.length_range]
  rw [er, ec, List.nil_append] at c
  have hb := bls_rep (1 + n).toNat
  have ho : gAll [.list (List.replicate (1 + n).toNat (PyData.bool true))] = some (.val (.bool true)) := by
    unfold gAll
    dsimp only
    rw [hb]
    simp
  generalize List.replicate (1 + n).toNat (PyData.bool true) = Q at *
  exact ⟨_, by simp [F_law, B_law, mScrLen, gm, gAdd_i, hrn, c, ho]; rfl⟩
end GC

namespace GC
open PySem PySem.Spec L2 M3 M4 M5
open PyProof.Rows hiding St
theorem scI_NoSuch : FnScope ["self", "what", "name"] ["self", "what", "name"] (defScope (defIn (topS 1) 0)) := ⟨rfl, rfl, rfl, by decide +kernel, rfl, by decide +kernel, by decide +kernel⟩
theorem all_mk {P : Program} {w : World} {K : PySem.W.Frag} {h : Heap} {mg : Str → Option Value} {fa : Addr} (X : K.In h) (G : h.Ns mainGlobals mg) (hfa : mg "law" = some (.ref fa))
    {f0 : Addr} {od0 an0 : Option Addr} {sl0 : Array (Option Value)} {oc0 kV0 dc0 pm0 cd0 ct0 : Value}
    {f1 : Addr} {od1 an1 : Option Addr} {sl1 : Array (Option Value)} {oc1 kV1 dc1 pm1 cd1 ct1 : Value}
    {f2 : Addr} {od2 an2 : Option Addr} {sl2 : Array (Option Value)} {oc2 kV2 dc2 pm2 cd2 ct2 : Value}
    {f3 : Addr} {od3 an3 : Option Addr} {sl3 : Array (Option Value)} {oc3 kV3 dc3 pm3 cd3 ct3 : Value}
    {f4 : Addr} {od4 an4 : Option Addr} {sl4 : Array (Option Value)} {oc4 kV4 dc4 pm4 cd4 ct4 : Value}
    {f5 : Addr} {od5 an5 : Option Addr} {sl5 : Array (Option Value)} {oc5 dc5 pm5 cd5 ct5 : Value}
    {dk5 : Addr}
    {f6 : Addr} {od6 an6 : Option Addr} {sl6 : Array (Option Value)} {oc6 kV6 dc6 pm6 cd6 ct6 : Value}
    {f7 : Addr} {od7 an7 : Option Addr} {sl7 : Array (Option Value)} {oc7 kV7 dc7 pm7 cd7 ct7 : Value}
    {f8 : Addr} {od8 an8 : Option Addr} {sl8 : Array (Option Value)} {oc8 kV8 dc8 pm8 cd8 ct8 : Value}
    {f9 : Addr} {od9 an9 : Option Addr} {sl9 : Array (Option Value)} {oc9 kV9 dc9 pm9 cd9 ct9 : Value}
    {f10 : Addr} {od10 an10 : Option Addr} {sl10 : Array (Option Value)} {oc10 kV10 dc10 pm10 cd10 ct10 : Value}
    {f11 : Addr} {od11 an11 : Option Addr} {sl11 : Array (Option Value)} {oc11 kV11 dc11 pm11 cd11 ct11 : Value}
    {f12 : Addr} {od12 an12 : Option Addr} {sl12 : Array (Option Value)} {oc12 kV12 dc12 pm12 cd12 ct12 : Value}
    {f13 : Addr} {od13 an13 : Option Addr} {sl13 : Array (Option Value)} {oc13 kV13 dc13 pm13 cd13 ct13 : Value}
    {f14 : Addr} {od14 an14 : Option Addr} {sl14 : Array (Option Value)} {oc14 kV14 dc14 pm14 cd14 ct14 : Value}
    {f15 : Addr} {od15 an15 : Option Addr} {sl15 : Array (Option Value)} {oc15 kV15 dc15 pm15 cd15 ct15 : Value}
    {f16 : Addr} {od16 an16 : Option Addr} {sl16 : Array (Option Value)} {oc16 kV16 dc16 pm16 cd16 ct16 : Value}
    {f17 : Addr} {od17 an17 : Option Addr} {sl17 : Array (Option Value)} {oc17 kV17 dc17 pm17 cd17 ct17 : Value}
    {f18 : Addr} {od18 an18 : Option Addr} {sl18 : Array (Option Value)} {oc18 kV18 dc18 pm18 cd18 ct18 : Value}
    {f19 : Addr} {od19 an19 : Option Addr} {sl19 : Array (Option Value)} {oc19 kV19 dc19 pm19 cd19 ct19 : Value}
    {f20 : Addr} {od20 an20 : Option Addr} {sl20 : Array (Option Value)} {oc20 kV20 dc20 pm20 cd20 ct20 : Value}
    {f21 : Addr} {od21 an21 : Option Addr} {sl21 : Array (Option Value)} {oc21 kV21 dc21 pm21 cd21 ct21 : Value}
    (a0 : PySem.W.nsIn K mainGlobals "table_place" = some (some (.ref f0)))
    (l0 : K.lookup f0 = some ⟨oc0, od0, .func (PySem.W.fnOf "table_place" "table_place" (defArgs st_table_place) (defBody st_table_place) (defScope st_table_place) .none kV0 dc0 pm0 an0 cd0 ct0), sl0⟩)
    (c0 : PySem.W.codeIn K cd0 "table_place" = true)
    (k0 : PySem.W.keepIn K (.ref f0) = true)
    (a1 : PySem.W.nsIn K mainGlobals "columns_of" = some (some (.ref f1)))
    (l1 : K.lookup f1 = some ⟨oc1, od1, .func (PySem.W.fnOf "columns_of" "columns_of" (defArgs st_columns_of) (defBody st_columns_of) (defScope st_columns_of) .none kV1 dc1 pm1 an1 cd1 ct1), sl1⟩)
    (c1 : PySem.W.codeIn K cd1 "columns_of" = true)
    (k1 : PySem.W.keepIn K (.ref f1) = true)
    (a2 : PySem.W.nsIn K mainGlobals "column_place" = some (some (.ref f2)))
    (l2 : K.lookup f2 = some ⟨oc2, od2, .func (PySem.W.fnOf "column_place" "column_place" (defArgs st_column_place) (defBody st_column_place) (defScope st_column_place) .none kV2 dc2 pm2 an2 cd2 ct2), sl2⟩)
    (c2 : PySem.W.codeIn K cd2 "column_place" = true)
    (k2 : PySem.W.keepIn K (.ref f2) = true)
    (a3 : PySem.W.nsIn K mainGlobals "rows_of" = some (some (.ref f3)))
    (l3 : K.lookup f3 = some ⟨oc3, od3, .func (PySem.W.fnOf "rows_of" "rows_of" (defArgs st_rows_of) (defBody st_rows_of) (defScope st_rows_of) .none kV3 dc3 pm3 an3 cd3 ct3), sl3⟩)
    (c3 : PySem.W.codeIn K cd3 "rows_of" = true)
    (k3 : PySem.W.keepIn K (.ref f3) = true)
    (a4 : PySem.W.nsIn K mainGlobals "loose_by" = some (some (.ref f4)))
    (l4 : K.lookup f4 = some ⟨oc4, od4, .func (PySem.W.fnOf "loose_by" "loose_by" (defArgs st_loose_by) (defBody st_loose_by) (defScope st_loose_by) .none kV4 dc4 pm4 an4 cd4 ct4), sl4⟩)
    (c4 : PySem.W.codeIn K cd4 "loose_by" = true)
    (k4 : PySem.W.keepIn K (.ref f4) = true)
    (a5 : PySem.W.nsIn K mainGlobals "loose" = some (some (.ref f5)))
    (l5 : K.lookup f5 = some ⟨oc5, od5, .func (PySem.W.fnOf "loose" "loose" (defArgs st_loose) (defBody st_loose) (defScope st_loose) .none (.ref dk5) dc5 pm5 an5 cd5 ct5), sl5⟩)
    (c5 : PySem.W.codeIn K cd5 "loose" = true)
    (k5 : PySem.W.keepIn K (.ref f5) = true)
    (q5_0 : PySem.W.nsIn K dk5 "when" = some (some .none))
    (a6 : PySem.W.nsIn K mainGlobals "holds" = some (some (.ref f6)))
    (l6 : K.lookup f6 = some ⟨oc6, od6, .func (PySem.W.fnOf "holds" "holds" (defArgs st_holds) (defBody st_holds) (defScope st_holds) .none kV6 dc6 pm6 an6 cd6 ct6), sl6⟩)
    (c6 : PySem.W.codeIn K cd6 "holds" = true)
    (k6 : PySem.W.keepIn K (.ref f6) = true)
    (a7 : PySem.W.nsIn K mainGlobals "_law_box" = some (some (.ref f7)))
    (l7 : K.lookup f7 = some ⟨oc7, od7, .func (PySem.W.fnOf "_law_box" "_law_box" (defArgs st_law_box) (defBody st_law_box) (defScope st_law_box) .none kV7 dc7 pm7 an7 cd7 ct7), sl7⟩)
    (c7 : PySem.W.codeIn K cd7 "_law_box" = true)
    (k7 : PySem.W.keepIn K (.ref f7) = true)
    (a8 : PySem.W.nsIn K mainGlobals "_law_take" = some (some (.ref f8)))
    (l8 : K.lookup f8 = some ⟨oc8, od8, .func (PySem.W.fnOf "_law_take" "_law_take" (defArgs st_law_take) (defBody st_law_take) (defScope st_law_take) .none kV8 dc8 pm8 an8 cd8 ct8), sl8⟩)
    (c8 : PySem.W.codeIn K cd8 "_law_take" = true)
    (k8 : PySem.W.keepIn K (.ref f8) = true)
    (a9 : PySem.W.nsIn K mainGlobals "_law_names" = some (some (.ref f9)))
    (l9 : K.lookup f9 = some ⟨oc9, od9, .func (PySem.W.fnOf "_law_names" "_law_names" (defArgs st_law_names) (defBody st_law_names) (defScope st_law_names) .none kV9 dc9 pm9 an9 cd9 ct9), sl9⟩)
    (c9 : PySem.W.codeIn K cd9 "_law_names" = true)
    (k9 : PySem.W.keepIn K (.ref f9) = true)
    (a10 : PySem.W.nsIn K mainGlobals "_law_tables" = some (some (.ref f10)))
    (l10 : K.lookup f10 = some ⟨oc10, od10, .func (PySem.W.fnOf "_law_tables" "_law_tables" (defArgs st_law_tables) (defBody st_law_tables) (defScope st_law_tables) .none kV10 dc10 pm10 an10 cd10 ct10), sl10⟩)
    (c10 : PySem.W.codeIn K cd10 "_law_tables" = true)
    (k10 : PySem.W.keepIn K (.ref f10) = true)
    (a11 : PySem.W.nsIn K mainGlobals "_law_ties" = some (some (.ref f11)))
    (l11 : K.lookup f11 = some ⟨oc11, od11, .func (PySem.W.fnOf "_law_ties" "_law_ties" (defArgs st_law_ties) (defBody st_law_ties) (defScope st_law_ties) .none kV11 dc11 pm11 an11 cd11 ct11), sl11⟩)
    (c11 : PySem.W.codeIn K cd11 "_law_ties" = true)
    (k11 : PySem.W.keepIn K (.ref f11) = true)
    (a12 : PySem.W.nsIn K mainGlobals "_law_place" = some (some (.ref f12)))
    (l12 : K.lookup f12 = some ⟨oc12, od12, .func (PySem.W.fnOf "_law_place" "_law_place" (defArgs st_law_place) (defBody st_law_place) (defScope st_law_place) .none kV12 dc12 pm12 an12 cd12 ct12), sl12⟩)
    (c12 : PySem.W.codeIn K cd12 "_law_place" = true)
    (k12 : PySem.W.keepIn K (.ref f12) = true)
    (a13 : PySem.W.nsIn K mainGlobals "_law_column" = some (some (.ref f13)))
    (l13 : K.lookup f13 = some ⟨oc13, od13, .func (PySem.W.fnOf "_law_column" "_law_column" (defArgs st_law_column) (defBody st_law_column) (defScope st_law_column) .none kV13 dc13 pm13 an13 cd13 ct13), sl13⟩)
    (c13 : PySem.W.codeIn K cd13 "_law_column" = true)
    (k13 : PySem.W.keepIn K (.ref f13) = true)
    (a14 : PySem.W.nsIn K mainGlobals "_law_content" = some (some (.ref f14)))
    (l14 : K.lookup f14 = some ⟨oc14, od14, .func (PySem.W.fnOf "_law_content" "_law_content" (defArgs st_law_content) (defBody st_law_content) (defScope st_law_content) .none kV14 dc14 pm14 an14 cd14 ct14), sl14⟩)
    (c14 : PySem.W.codeIn K cd14 "_law_content" = true)
    (k14 : PySem.W.keepIn K (.ref f14) = true)
    (a15 : PySem.W.nsIn K mainGlobals "_law_handed" = some (some (.ref f15)))
    (l15 : K.lookup f15 = some ⟨oc15, od15, .func (PySem.W.fnOf "_law_handed" "_law_handed" (defArgs st_law_handedO) (defBody st_law_handedO) (defScope st_law_handedO) .none kV15 dc15 pm15 an15 cd15 ct15), sl15⟩)
    (c15 : PySem.W.codeIn K cd15 "_law_handed" = true)
    (k15 : PySem.W.keepIn K (.ref f15) = true)
    (a16 : PySem.W.nsIn K mainGlobals "_law_same" = some (some (.ref f16)))
    (l16 : K.lookup f16 = some ⟨oc16, od16, .func (PySem.W.fnOf "_law_same" "_law_same" (defArgs st_law_same) (defBody st_law_same) (defScope st_law_same) .none kV16 dc16 pm16 an16 cd16 ct16), sl16⟩)
    (c16 : PySem.W.codeIn K cd16 "_law_same" = true)
    (k16 : PySem.W.keepIn K (.ref f16) = true)
    (a17 : PySem.W.nsIn K mainGlobals "_law_loose" = some (some (.ref f17)))
    (l17 : K.lookup f17 = some ⟨oc17, od17, .func (PySem.W.fnOf "_law_loose" "_law_loose" (defArgs st_law_loose) (defBody st_law_loose) (defScope st_law_loose) .none kV17 dc17 pm17 an17 cd17 ct17), sl17⟩)
    (c17 : PySem.W.codeIn K cd17 "_law_loose" = true)
    (k17 : PySem.W.keepIn K (.ref f17) = true)
    (a18 : PySem.W.nsIn K mainGlobals "_law_tied" = some (some (.ref f18)))
    (l18 : K.lookup f18 = some ⟨oc18, od18, .func (PySem.W.fnOf "_law_tied" "_law_tied" (defArgs st_law_tied) (defBody st_law_tied) (defScope st_law_tied) .none kV18 dc18 pm18 an18 cd18 ct18), sl18⟩)
    (c18 : PySem.W.codeIn K cd18 "_law_tied" = true)
    (k18 : PySem.W.keepIn K (.ref f18) = true)
    (a19 : PySem.W.nsIn K mainGlobals "_law_told_right" = some (some (.ref f19)))
    (l19 : K.lookup f19 = some ⟨oc19, od19, .func (PySem.W.fnOf "_law_told_right" "_law_told_right" (defArgs st_law_told_right) (defBody st_law_told_right) (defScope st_law_told_right) .none kV19 dc19 pm19 an19 cd19 ct19), sl19⟩)
    (c19 : PySem.W.codeIn K cd19 "_law_told_right" = true)
    (k19 : PySem.W.keepIn K (.ref f19) = true)
    (a20 : PySem.W.nsIn K mainGlobals "_law_right" = some (some (.ref f20)))
    (l20 : K.lookup f20 = some ⟨oc20, od20, .func (PySem.W.fnOf "_law_right" "_law_right" (defArgs st_law_right) (defBody st_law_right) (defScope st_law_right) .none kV20 dc20 pm20 an20 cd20 ct20), sl20⟩)
    (c20 : PySem.W.codeIn K cd20 "_law_right" = true)
    (k20 : PySem.W.keepIn K (.ref f20) = true)
    (a21 : PySem.W.nsIn K mainGlobals "law" = some (some (.ref f21)))
    (l21 : K.lookup f21 = some ⟨oc21, od21, .func (PySem.W.fnOf "law" "law" (defArgs st_law) (defBody st_law) (defScope st_law) .none kV21 dc21 pm21 an21 cd21 ct21), sl21⟩)
    (c21 : PySem.W.codeIn K cd21 "law" = true)
    (k21 : PySem.W.keepIn K (.ref f21) = true)
    (gnO : PySem.W.specialIn K (.builtin "object.__class__") "__get__" = some (some (.builtin "getset_descriptor.__get__"))) (tkO : PySem.W.takesIn K (.builtin "object.__class__") = some true)
    {C_NoSuch : Addr} (aC_NoSuch : PySem.W.nsIn K mainGlobals "NoSuch" = some (some (.ref C_NoSuch)))
    (eC_NoSuch : PySem.W.subIn K (.ref C_NoSuch) (.type "BaseException") = some true) (tC_NoSuch : PySem.W.typeIn K (.ref C_NoSuch) = some (.type "type")) (hC_NoSuch : PySem.W.hasDictIn K C_NoSuch = true)
    (z_LookupError : PySem.W.nsIn K mainGlobals "LookupError" = some none)
    {nm_NoSuch q_NoSuch : Str} {N_NoSuch : Addr} {bs_NoSuch : List Value} {sn_NoSuch : List Str} {sub_NoSuch : List Value} {ab_NoSuch : Bool} {col_NoSuch : Option Bool} {dd_NoSuch : Option Addr} {m0_NoSuch m1_NoSuch m2_NoSuch m3_NoSuch m5_NoSuch : Option Value}
    (xL_NoSuch : K.lookup C_NoSuch = some (excClassObj nm_NoSuch q_NoSuch C_NoSuch N_NoSuch bs_NoSuch tlLE true sn_NoSuch sub_NoSuch ab_NoSuch col_NoSuch dd_NoSuch m0_NoSuch m1_NoSuch m2_NoSuch m3_NoSuch m5_NoSuch "LookupError.__new__"))
    (sa_NoSuch : PySem.W.findIn K (.ref C_NoSuch) "__setattr__" = some (some (.builtin "object.__setattr__"))) (ga_NoSuch : PySem.W.findIn K (.ref C_NoSuch) "__getattribute__" = some (some (.builtin "BaseException.__getattribute__"))) (gg_NoSuch : PySem.W.findIn K (.ref C_NoSuch) "__getattr__" = some none)
    (no_NoSuch_what : PySem.W.findIn K (.ref C_NoSuch) "what" = some none) (no_NoSuch_name : PySem.W.findIn K (.ref C_NoSuch) "name" = some none)
    (kC_NoSuch : PySem.W.keepIn K (.ref C_NoSuch) = true) (cC_NoSuch : PySem.W.isClsIn K C_NoSuch = true) (ca_NoSuch : PySem.W.findIn K (.ref C_NoSuch) "__class__" = some (some (.builtin "object.__class__"))) (mo_NoSuch : PySem.W.mroIn K C_NoSuch (.type "object") = some true)
    {f_NoSuch : Addr} {od_NoSuch an_NoSuch : Option Addr} {sl_NoSuch : Array (Option Value)} {oc_NoSuch kV_NoSuch dc_NoSuch pm_NoSuch cd_NoSuch ct_NoSuch : Value}
    (iC_NoSuch : PySem.W.findIn K (.ref C_NoSuch) "__init__" = some (some (.ref f_NoSuch))) (tI_NoSuch : PySem.W.typeIn K (.ref f_NoSuch) = some (.type "function")) (lI_NoSuch : K.lookup f_NoSuch = some ⟨oc_NoSuch, od_NoSuch, .func (PySem.W.fnOf "__init__" "NoSuch.__init__" (defArgs (defIn (topS 1) 0)) (defBody (defIn (topS 1) 0)) (defScope (defIn (topS 1) 0)) .none kV_NoSuch dc_NoSuch pm_NoSuch an_NoSuch cd_NoSuch ct_NoSuch), sl_NoSuch⟩) (cI_NoSuch : PySem.W.codeIn K cd_NoSuch "NoSuch.__init__" = true)
    (z_abs : PySem.W.nsIn K mainGlobals "abs" = some none)
    (z_all : PySem.W.nsIn K mainGlobals "all" = some none)
    (z_bool : PySem.W.nsIn K mainGlobals "bool" = some none)
    (z_enumerate : PySem.W.nsIn K mainGlobals "enumerate" = some none)
    (z_int : PySem.W.nsIn K mainGlobals "int" = some none)
    (z_isinstance : PySem.W.nsIn K mainGlobals "isinstance" = some none)
    (z_len : PySem.W.nsIn K mainGlobals "len" = some none)
    (z_list : PySem.W.nsIn K mainGlobals "list" = some none)
    (z_max : PySem.W.nsIn K mainGlobals "max" = some none)
    (z_min : PySem.W.nsIn K mainGlobals "min" = some none)
    (z_range : PySem.W.nsIn K mainGlobals "range" = some none)
    (z_repr : PySem.W.nsIn K mainGlobals "repr" = some none)
    (z_set : PySem.W.nsIn K mainGlobals "set" = some none)
    (z_sorted : PySem.W.nsIn K mainGlobals "sorted" = some none)
    (z_str : PySem.W.nsIn K mainGlobals "str" = some none)
    (z_tuple : PySem.W.nsIn K mainGlobals "tuple" = some none)
    (z_zip : PySem.W.nsIn K mainGlobals "zip" = some none)
    {t_COLUMN : Tok} (y_COLUMN : PySem.W.nsIn K mainGlobals "COLUMN" = some (some (.int 2 t_COLUMN)))
    {t_OTHER : Tok} (y_OTHER : PySem.W.nsIn K mainGlobals "OTHER" = some (some (.int 3 t_OTHER)))
    {t_TABLE : Tok} (y_TABLE : PySem.W.nsIn K mainGlobals "TABLE" = some (some (.int 1 t_TABLE)))
    {t_TIE : Tok} (y_TIE : PySem.W.nsIn K mainGlobals "TIE" = some (some (.int 0 t_TIE)))
    {t_WHEN : Tok} (y_WHEN : PySem.W.nsIn K mainGlobals "WHEN" = some (some (.int 6 t_WHEN)))
    : ∃ fd : FuncData, (∀ (s : Shared) (u : Value), BindsTo s fd ⟨[u], []⟩ [("script", u)]) ∧ ∀ base : Heap, K.In base → base.Ns mainGlobals mg → FnG P w K mg base (L2.CX P w) 15 fa fd ["script"] (spM K 1 F_law) := by
  have e := hfa.symm.trans (PySem.W.mg_of X G a21)
  cases e
  have OG_NoSuch : OexG K C_NoSuch "LookupError.__init__" := oexG_LE ⟨_, _, _, _, _, _, _, _, _, _, _, _, _, _, xL_NoSuch⟩ sa_NoSuch eC_NoSuch tC_NoSuch kC_NoSuch
  have XC_NoSuch : Xcl K C_NoSuch := ⟨ga_NoSuch, gg_NoSuch, eC_NoSuch, hC_NoSuch, cC_NoSuch, ca_NoSuch, mo_NoSuch, gnO, tkO⟩
  have M : Mo K w mg := ⟨PySem.W.mg_none_of X G z_abs, PySem.W.mg_none_of X G z_all, PySem.W.mg_none_of X G z_bool, PySem.W.mg_none_of X G z_enumerate, PySem.W.mg_none_of X G z_int, PySem.W.mg_none_of X G z_isinstance, PySem.W.mg_none_of X G z_len, PySem.W.mg_none_of X G z_list, PySem.W.mg_none_of X G z_max, PySem.W.mg_none_of X G z_min, PySem.W.mg_none_of X G z_range, PySem.W.mg_none_of X G z_repr, PySem.W.mg_none_of X G z_set, PySem.W.mg_none_of X G z_sorted, PySem.W.mg_none_of X G z_str, PySem.W.mg_none_of X G z_tuple, PySem.W.mg_none_of X G z_zip, ⟨_, PySem.W.mg_of X G y_COLUMN, _, rfl⟩, ⟨_, PySem.W.mg_of X G y_OTHER, _, rfl⟩, ⟨_, PySem.W.mg_of X G y_TABLE, _, rfl⟩, ⟨_, PySem.W.mg_of X G y_TIE, _, rfl⟩, ⟨_, PySem.W.mg_of X G y_WHEN, _, rfl⟩⟩
  have D0 : Dfn K "table_place" st_table_place ["tables", "table"] [] _ _ := dfn_mk l0 c0 k0 fun _ _ _ _ _ _ us hl => match us, hl with | [_, _], _ => rfl
  have D1 : Dfn K "columns_of" st_columns_of ["tables", "table"] [] _ _ := dfn_mk l1 c1 k1 fun _ _ _ _ _ _ us hl => match us, hl with | [_, _], _ => rfl
  have D2 : Dfn K "column_place" st_column_place ["tables", "table", "column"] [] _ _ := dfn_mk l2 c2 k2 fun _ _ _ _ _ _ us hl => match us, hl with | [_, _, _], _ => rfl
  have D3 : Dfn K "rows_of" st_rows_of ["tables", "content", "table"] [] _ _ := dfn_mk l3 c3 k3 fun _ _ _ _ _ _ us hl => match us, hl with | [_, _, _], _ => rfl
  have D4 : Dfn K "loose_by" st_loose_by ["plan", "content", "told"] [] _ _ := dfn_mk l4 c4 k4 fun _ _ _ _ _ _ us hl => match us, hl with | [_, _, _], _ => rfl
  have D5 : DfnX K "loose" st_loose _ _ := ⟨⟨_, _, _, _, _, _, _, _, _, _, rfl, l5, c5⟩, k5⟩
  have DN5 : Dfn K "loose" st_loose ["plan", "content", "when"] [.non] _ _ := dfn_mk0 (kws := [("when", .non)]) l5 c5 k5 (fun q hq => by rw [List.mem_singleton.mp hq]; exact ⟨_, q5_0, rfl⟩) 2 (by simp) rfl fun _ _ _ _ _ _ us ks h1 h2 => match us, h1, ks, h2 with | [_, _], _, [_], _ => ⟨_, _, _, _, _, _, rfl, rfl, rfl⟩
  have KB5 : KB K _ ["plan", "content", "when"] ["when"] 2 := fun s us ws X h1 h2 => match us, h1, ws, h2 with | [_, _], _, [_], _ => (.of_eq rfl : BindsTo s (PySem.W.fnOf "loose" "loose" (defArgs st_loose) (defBody st_loose) (defScope st_loose) .none (.ref dk5) dc5 pm5 an5 cd5 ct5) _ _)
  have D6 : Dfn K "holds" st_holds ["plan", "content"] [] _ _ := dfn_mk l6 c6 k6 fun _ _ _ _ _ _ us hl => match us, hl with | [_, _], _ => rfl
  have D7 : Dfn K "_law_box" st_law_box ["script", "k"] [] _ _ := dfn_mk l7 c7 k7 fun _ _ _ _ _ _ us hl => match us, hl with | [_, _], _ => rfl
  have D8 : Dfn K "_law_take" st_law_take ["box", "many"] [] _ _ := dfn_mk l8 c8 k8 fun _ _ _ _ _ _ us hl => match us, hl with | [_, _], _ => rfl
  have D9 : Dfn K "_law_names" st_law_names ["box", "many"] [] _ _ := dfn_mk l9 c9 k9 fun _ _ _ _ _ _ us hl => match us, hl with | [_, _], _ => rfl
  have D10 : Dfn K "_law_tables" st_law_tables ["box", "most"] [] _ _ := dfn_mk l10 c10 k10 fun _ _ _ _ _ _ us hl => match us, hl with | [_, _], _ => rfl
  have D11 : Dfn K "_law_ties" st_law_ties ["box", "tables", "most"] [] _ _ := dfn_mk l11 c11 k11 fun _ _ _ _ _ _ us hl => match us, hl with | [_, _, _], _ => rfl
  have D12 : Dfn K "_law_place" st_law_place ["tables", "table"] [] _ _ := dfn_mk l12 c12 k12 fun _ _ _ _ _ _ us hl => match us, hl with | [_, _], _ => rfl
  have D13 : Dfn K "_law_column" st_law_column ["tables", "table", "column"] [] _ _ := dfn_mk l13 c13 k13 fun _ _ _ _ _ _ us hl => match us, hl with | [_, _, _], _ => rfl
  have D14 : Dfn K "_law_content" st_law_content ["box", "tables", "ties", "most"] [] _ _ := dfn_mk l14 c14 k14 fun _ _ _ _ _ _ us hl => match us, hl with | [_, _, _, _], _ => rfl
  have D15 : Dfn K "_law_handed" st_law_handedO ["box", "content"] [] _ _ := dfn_mk l15 c15 k15 fun _ _ _ _ _ _ us hl => match us, hl with | [_, _], _ => rfl
  have D16 : Dfn K "_law_same" st_law_same ["found", "due"] [] _ _ := dfn_mk l16 c16 k16 fun _ _ _ _ _ _ us hl => match us, hl with | [_, _], _ => rfl
  have D17 : Dfn K "_law_loose" st_law_loose ["plan", "content", "times"] [] _ _ := dfn_mk l17 c17 k17 fun _ _ _ _ _ _ us hl => match us, hl with | [_, _, _], _ => rfl
  have D18 : Dfn K "_law_tied" st_law_tied ["plan", "content"] [] _ _ := dfn_mk l18 c18 k18 fun _ _ _ _ _ _ us hl => match us, hl with | [_, _], _ => rfl
  have D19 : Dfn K "_law_told_right" st_law_told_right ["plan", "content", "handed"] [] _ _ := dfn_mk l19 c19 k19 fun _ _ _ _ _ _ us hl => match us, hl with | [_, _, _], _ => rfl
  have D20 : Dfn K "_law_right" st_law_right ["box"] [] _ _ := dfn_mk l20 c20 k20 fun _ _ _ _ _ _ us hl => match us, hl with | [_], _ => rfl
  have D21 : Dfn K "law" st_law ["script"] [] _ _ := dfn_mk l21 c21 k21 fun _ _ _ _ _ _ us hl => match us, hl with | [_], _ => rfl
  refine ⟨PySem.W.fnOf "law" "law" (defArgs st_law) (defBody st_law) (defScope st_law) .none kV21 dc21 pm21 an21 cd21 ct21, fun s u => .of_eq rfl, fun base _ _ => ?_⟩
  have FI_NoSuch : FnOk P w K mg base (L2.CX P w) 1 f_NoSuch _ ["self", "what", "name"] (spIn K "LookupError.__init__" ["what", "name"]) := L2.fn_of (k := 0) lI_NoSuch cI_NoSuch scI_NoSuch (fun vs H Q E h => by obtain ⟨a, C, ys, rfl, hl, _⟩ := h; simp [hl]) fun A outer s H vs Q E hr hsp => ⟨_, (pss_cons (ps_expr (pe_ini (base_LE (PySem.W.mg_none_of X G z_LookupError)) (pa_cons (pe_var (i := 0) rfl (Or.inl rfl) (by decide) (by decide)) (pa_cons pe_str pa_nil)))) (pss_cons (ps_ostG (pe_var (i := 0) rfl (Or.inl rfl) (by decide) (by decide)) (pe_var (i := 1) rfl (Or.inl rfl) (by decide) (by decide))) (pss_one (ps_ostG (pe_var (i := 0) rfl (Or.inl rfl) (by decide) (by decide)) (pe_var (i := 2) rfl (Or.inl rfl) (by decide) (by decide)))))), in2_go hsp⟩
  have r_NoSuch : Rse P w K mg base (L2.CX P w) "NoSuch" ["what", "name"] := ⟨⟨C_NoSuch, f_NoSuch, _, _, _, PySem.W.mg_of X G aC_NoSuch, aC_NoSuch, OG_NoSuch, fun f hf => by
    simp only [List.mem_cons, List.not_mem_nil, or_false] at hf
    rcases hf with rfl | rfl
    · exact no_NoSuch_what
    · exact no_NoSuch_name, iC_NoSuch, tI_NoSuch, FI_NoSuch, .all fun us hl => match us, hl with | [_, _, _], _ => rfl⟩⟩
  have g_table_place := ok_table_place (P := P) (w := w) (base := base) (k := 2) M D0  r_NoSuch (by decide)
  have c_table_place := g_table_place.cal D0 (PySem.W.mg_of X G a0)
  have g_columns_of := ok_columns_of (P := P) (w := w) (base := base) (k := 3) M D1 (c_table_place.mono (by decide))
  have c_columns_of := g_columns_of.cal D1 (PySem.W.mg_of X G a1)
  have g_column_place := ok_column_place (P := P) (w := w) (base := base) (k := 4) M D2 (c_columns_of.mono (by decide)) r_NoSuch (by decide)
  have c_column_place := g_column_place.cal D2 (PySem.W.mg_of X G a2)
  have g_rows_of := ok_rows_of (P := P) (w := w) (base := base) (k := 3) M D3 (c_table_place.mono (by decide))
  have c_rows_of := g_rows_of.cal D3 (PySem.W.mg_of X G a3)
  have g_loose_by := ok_loose_by (P := P) (w := w) (base := base) (k := 5) M D4 (c_rows_of.mono (by decide)) (c_column_place.mono (by decide))
  have c_loose_by := g_loose_by.cal D4 (PySem.W.mg_of X G a4)
  have g_loose := ok_loose (P := P) (w := w) (base := base) (k := 6) M D5 (c_loose_by.mono (by decide))
  have d_loose := g_loose.cal DN5 (PySem.W.mg_of X G a5)
  have k_loose := FnG.calK (n1 := 2) (ks := ["when"]) g_loose D5 KB5 (PySem.W.mg_of X G a5)
  have g_holds := ok_holds (P := P) (w := w) (base := base) (k := 7) M D6 (d_loose.mono (by decide))
  have c_holds := g_holds.cal D6 (PySem.W.mg_of X G a6)
  have g_law_box := ok_law_box (P := P) (w := w) (base := base) (k := 0) M D7 
  have c_law_box := g_law_box.cal D7 (PySem.W.mg_of X G a7)
  have g_law_take := ok_law_take (P := P) (w := w) (base := base) (k := 0) M D8 
  have c_law_take := g_law_take.cal D8 (PySem.W.mg_of X G a8)
  have g_law_names := ok_law_names (P := P) (w := w) (base := base) (k := 1) M D9 (c_law_take.mono (by decide))
  have c_law_names := g_law_names.cal D9 (PySem.W.mg_of X G a9)
  have g_law_tables := ok_law_tables (P := P) (w := w) (base := base) (k := 2) M D10 (c_law_names.mono (by decide)) (c_law_take.mono (by decide))
  have c_law_tables := g_law_tables.cal D10 (PySem.W.mg_of X G a10)
  have g_law_ties := ok_law_ties (P := P) (w := w) (base := base) (k := 2) M D11 (c_law_names.mono (by decide)) (c_law_take.mono (by decide))
  have c_law_ties := g_law_ties.cal D11 (PySem.W.mg_of X G a11)
  have g_law_place := ok_law_place (P := P) (w := w) (base := base) (k := 0) M D12 
  have c_law_place := g_law_place.cal D12 (PySem.W.mg_of X G a12)
  have g_law_column := ok_law_column (P := P) (w := w) (base := base) (k := 1) M D13 (c_law_place.mono (by decide))
  have c_law_column := g_law_column.cal D13 (PySem.W.mg_of X G a13)
  have g_law_content := ok_law_content (P := P) (w := w) (base := base) (k := 1) M D14 (c_law_take.mono (by decide)) (c_law_place.mono (by decide))
  have c_law_content := g_law_content.cal D14 (PySem.W.mg_of X G a14)
  have g_law_handedO := ok_law_handedO (P := P) (w := w) (base := base) (k := 1) M D15 (c_law_take.mono (by decide))
  have c_law_handedO := g_law_handedO.cal D15 (PySem.W.mg_of X G a15)
  have g_law_same := ok_law_same (P := P) (w := w) (base := base) (k := 0) M (PySem.W.mg_of X G a16) D16  12
  have c_law_same := g_law_same.cal D16 (PySem.W.mg_of X G a16)
  have g_law_loose := ok_law_loose (P := P) (w := w) (base := base) (k := 2) M D17 (c_law_column.mono (by decide)) (c_law_place.mono (by decide))
  have c_law_loose := g_law_loose.cal D17 (PySem.W.mg_of X G a17)
  have g_law_tied := ok_law_tied (P := P) (w := w) (base := base) (k := 2) M D18 (c_law_column.mono (by decide)) (c_law_place.mono (by decide))
  have c_law_tied := g_law_tied.cal D18 (PySem.W.mg_of X G a18)
  have g_law_told_right := ok_law_told_right (P := P) (w := w) (base := base) (k := 12) M D19 (c_law_same.mono (by decide)) (c_law_loose.mono (by decide)) (c_holds.mono (by decide)) (d_loose.mono (by decide)) (k_loose.mono (by decide))
  have c_law_told_right := g_law_told_right.cal D19 (PySem.W.mg_of X G a19)
  have g_law_right := ok_law_right (P := P) (w := w) (base := base) (k := 13) M D20 (c_law_take.mono (by decide)) (c_law_told_right.mono (by decide)) (c_law_handedO.mono (by decide)) (c_law_tied.mono (by decide)) (c_law_content.mono (by decide)) (c_law_ties.mono (by decide)) (c_law_tables.mono (by decide))
  have c_law_right := g_law_right.cal D20 (PySem.W.mg_of X G a20)
  have g_law := ok_law (P := P) (w := w) (base := base) (k := 14) M D21 (c_law_right.mono (by decide)) (c_law_box.mono (by decide))
  exact g_law
end GC
open PySem PySem.W PyProof.Rows
set_option maxRecDepth 100000 in
set_option maxHeartbeats 0 in
theorem PySem.Challenge.cw_tiedtables_k12_what_is_loose_holds : PySem.Challenge.rw_tiedtables_k12_what_is_loose.Holds := by
  w_on; o_law; k_head; (case hw => w_witness2)
  k_fill
  refine M3.walk_ofKX (l := PySem.Challenge.rw_tiedtables_k12_what_is_loose) (n := 63) (k := 15) (x := "script") (sp := fun K => M3.spM K 1 (GC.F_law)) rfl (by decide) rfl ⟨rfl, by decide, by decide⟩ (fun w h Y => PySem.W.kIn_of Y) ?F (fun K H a ns hl _ hS => let ⟨_, e⟩ := GC.law_true ns hl; M3.law_says hS e)
  case F =>
    intro w mg fa h KX G hmg
    refine' GC.all_mk KX G hmg ?a0 ?l0 ?c0 ?k0 ?a1 ?l1 ?c1 ?k1 ?a2 ?l2 ?c2 ?k2 ?a3 ?l3 ?c3 ?k3 ?a4 ?l4 ?c4 ?k4 ?a5 ?l5 ?c5 ?k5 ?q5_0 ?a6 ?l6 ?c6 ?k6 ?a7 ?l7 ?c7 ?k7 ?a8 ?l8 ?c8 ?k8 ?a9 ?l9 ?c9 ?k9 ?a10 ?l10 ?c10 ?k10 ?a11 ?l11 ?c11 ?k11 ?a12 ?l12 ?c12 ?k12 ?a13 ?l13 ?c13 ?k13 ?a14 ?l14 ?c14 ?k14 ?a15 ?l15 ?c15 ?k15 ?a16 ?l16 ?c16 ?k16 ?a17 ?l17 ?c17 ?k17 ?a18 ?l18 ?c18 ?k18 ?a19 ?l19 ?c19 ?k19 ?a20 ?l20 ?c20 ?k20 ?a21 ?l21 ?c21 ?k21 ?gnO ?tkO ?aC_NoSuch ?eC_NoSuch ?tC_NoSuch ?hC_NoSuch ?z_LookupError ?xL_NoSuch ?sa_NoSuch ?ga_NoSuch ?gg_NoSuch ?no_NoSuch_what ?no_NoSuch_name ?kC_NoSuch ?cC_NoSuch ?ca_NoSuch ?mo_NoSuch ?iC_NoSuch ?tI_NoSuch ?lI_NoSuch ?cI_NoSuch ?z_abs ?z_all ?z_bool ?z_enumerate ?z_int ?z_isinstance ?z_len ?z_list ?z_max ?z_min ?z_range ?z_repr ?z_set ?z_sorted ?z_str ?z_tuple ?z_zip ?y_COLUMN ?y_OTHER ?y_TABLE ?y_TIE ?y_WHEN
    (case a0 => k_is); (case l0 => k_is); (case c0 => k_is); (case k0 => k_is); (case a1 => k_is); (case l1 => k_is); (case c1 => k_is); (case k1 => k_is); (case a2 => k_is); (case l2 => k_is); (case c2 => k_is); (case k2 => k_is); (case a3 => k_is); (case l3 => k_is); (case c3 => k_is); (case k3 => k_is); (case a4 => k_is); (case l4 => k_is); (case c4 => k_is); (case k4 => k_is); (case a5 => k_is); (case l5 => k_is); (case c5 => k_is); (case k5 => k_is); (case q5_0 => k_is); (case a6 => k_is); (case l6 => k_is); (case c6 => k_is); (case k6 => k_is); (case a7 => k_is); (case l7 => k_is); (case c7 => k_is); (case k7 => k_is); (case a8 => k_is); (case l8 => k_is); (case c8 => k_is); (case k8 => k_is); (case a9 => k_is); (case l9 => k_is); (case c9 => k_is); (case k9 => k_is); (case a10 => k_is); (case l10 => k_is); (case c10 => k_is); (case k10 => k_is); (case a11 => k_is); (case l11 => k_is); (case c11 => k_is); (case k11 => k_is); (case a12 => k_is); (case l12 => k_is); (case c12 => k_is); (case k12 => k_is); (case a13 => k_is); (case l13 => k_is); (case c13 => k_is); (case k13 => k_is); (case a14 => k_is); (case l14 => k_is); (case c14 => k_is); (case k14 => k_is); (case a15 => k_is); (case l15 => k_is); (case c15 => k_is); (case k15 => k_is); (case a16 => k_is); (case l16 => k_is); (case c16 => k_is); (case k16 => k_is); (case a17 => k_is); (case l17 => k_is); (case c17 => k_is); (case k17 => k_is); (case a18 => k_is); (case l18 => k_is); (case c18 => k_is); (case k18 => k_is); (case a19 => k_is); (case l19 => k_is); (case c19 => k_is); (case k19 => k_is); (case a20 => k_is); (case l20 => k_is); (case c20 => k_is); (case k20 => k_is); (case a21 => k_is); (case l21 => k_is); (case c21 => k_is); (case k21 => k_is); (case gnO => k_is); (case tkO => k_is); (case aC_NoSuch => k_is); (case eC_NoSuch => k_is); (case tC_NoSuch => k_is); (case hC_NoSuch => k_is); (case z_LookupError => k_is); (case xL_NoSuch => k_is); (case sa_NoSuch => k_is); (case ga_NoSuch => k_is); (case gg_NoSuch => k_is); (case no_NoSuch_what => k_is); (case no_NoSuch_name => k_is); (case kC_NoSuch => k_is); (case cC_NoSuch => k_is); (case ca_NoSuch => k_is); (case mo_NoSuch => k_is); (case iC_NoSuch => k_is); (case tI_NoSuch => k_is); (case lI_NoSuch => k_is); (case cI_NoSuch => k_is); (case z_abs => k_is); (case z_all => k_is); (case z_bool => k_is); (case z_enumerate => k_is); (case z_int => k_is); (case z_isinstance => k_is); (case z_len => k_is); (case z_list => k_is); (case z_max => k_is); (case z_min => k_is); (case z_range => k_is); (case z_repr => k_is); (case z_set => k_is); (case z_sorted => k_is); (case z_str => k_is); (case z_tuple => k_is); (case z_zip => k_is); (case y_COLUMN => k_is); (case y_OTHER => k_is); (case y_TABLE => k_is); (case y_TIE => k_is); (case y_WHEN => k_is)

