import PyProof.Rows.All
import Wide.All
import OpenK.AllK
import Wide.FinOn
import HandS.ForMost
import HandS.Walk
import HandS.IsInst
import HandS.Wide
import HandS.WideBits
import HandS.StrMore
import HandS.Style
import HandS.Flow
import HandS.Defaults
import HandS.ExcOwn
import HandS.TryOnly
import HandS.Zip
import KE.GoesMore
import KE.GoesEnum
import PyProof.EnumMake
import KE.GoesZip
import KE.GoesEnumKw
import HandS.SortKw
import PyProof.Rows.SetFrom
import HandS.TupAny
import HandS.Deep
import HandS.RaiseMore
import HandS.Text
import HandS.TupMul
import PyProof.Rows.IntBool
import HandS.SetKeys
import HandS.Small
import HandS.Dict
import HandS.Ends
import KE.KUnpackStar
import HandS.More
import HandS.TupLe
import HandS.ExcInit
import HandS.ExcField
import HandS.ExcIs
import KE.KExcIs
import PyProof.ExcBaseAll.LookupError
import PyProof.StrBlock2
import HandS.Strs
import HandS.DictComp
import KE.KDictZip
import KE.KDictItemsList
import PySem.Challenge.RW_tiedtables_k07_what_deeds_do_by_themselv
set_option Elab.async false
set_option linter.all false
set_option maxRecDepth 100000
set_option maxHeartbeats 4000000
namespace M3
open PySem PySem.Spec L2
open PyProof.Rows hiding St

abbrev D := PyData
abbrev Own := Nat → Addr → Prop

theorem same_upd {H : Hp} {p : Addr} {o : HO} (h : H p = none) : Same H (upd H p o) := fun b x e => by
  rw [upd_ne (ne_of_none e h)]; exact e
theorem Same.tup {K : PySem.W.Frag} {H H' : Hp} {a : Addr} {xs : List V} (e : Same H H') (h : SqT K H a xs) : SqT K H' a xs := by
  rcases h with (h | ⟨o, h⟩) | h
  · exact .inl (.inl (e _ _ h))
  · exact .inl (.inr ⟨o, e _ _ h⟩)
  · exact .inr h

/-! ### frozen data -/
mutual
inductive Dq (K : PySem.W.Frag) (H : Hp) : V → D → Prop
  | non : Dq K H .non .none
  | bl (b : Bool) : Dq K H (.bl b) (.bool b)
  | int (i : Int) : Dq K H (.int i) (.int i)
  | str (x : Str) : Dq K H (.str x) (.str x)
  | lst {a : Addr} {vs : List V} {ds : List D} : H a = some (.lst vs) → DqAll K H vs ds → Dq K H (.ref a) (.list ds)
  | tup {a : Addr} {vs : List V} {ds : List D} : SqT K H a vs → DqAll K H vs ds → Dq K H (.ref a) (.tuple ds)
inductive DqAll (K : PySem.W.Frag) (H : Hp) : List V → List D → Prop
  | nil : DqAll K H [] []
  | cons {v : V} {vs : List V} {d : D} {ds : List D} : Dq K H v d → DqAll K H vs ds → DqAll K H (v :: vs) (d :: ds)
end
section
variable {K : PySem.W.Frag} {H H' : Hp}
mutual
theorem Dq.mono (s : Same H H') : ∀ {v : V} {d : D}, Dq K H v d → Dq K H' v d
  | _, _, .non => .non
  | _, _, .bl b => .bl b
  | _, _, .int i => .int i
  | _, _, .str x => .str x
  | _, _, .lst h a => .lst (s _ _ h) (DqAll.mono s a)
  | _, _, .tup h a => .tup (Same.tup s h) (DqAll.mono s a)
theorem DqAll.mono (s : Same H H') : ∀ {vs : List V} {ds : List D}, DqAll K H vs ds → DqAll K H' vs ds
  | _, _, .nil => .nil
  | _, _, .cons a b => .cons (Dq.mono s a) (DqAll.mono s b)
end
mutual
theorem Dq.dp : ∀ {v : V} {d : D}, Dq K H v d → Dp K H v d
  | _, _, .non => .non
  | _, _, .bl b => .bl b
  | _, _, .int i => .int i
  | _, _, .str x => .str x
  | _, _, .lst h a => .lst (SqL.of h) (DqAll.dp a)
  | _, _, .tup h a => .tup h (DqAll.dp a)
theorem DqAll.dp : ∀ {vs : List V} {ds : List D}, DqAll K H vs ds → DpAll K H vs ds
  | _, _, .nil => .nil
  | _, _, .cons a b => .cons (Dq.dp a) (DqAll.dp b)
end
theorem DqAll.length : ∀ {vs : List V} {ds : List D}, DqAll K H vs ds → vs.length = ds.length
  | _, _, .nil => rfl
  | _, _, .cons _ b => congrArg Nat.succ (DqAll.length b)
theorem DqAll.get : ∀ {vs : List V} {ds : List D} {i : Nat} {v : V}, DqAll K H vs ds → vs[i]? = some v → ∃ d, ds[i]? = some d ∧ Dq K H v d
  | _, _, _, _, .nil, e => by simp at e
  | _, _, 0, _, .cons a _, e => by simp at e; subst e; exact ⟨_, rfl, a⟩
  | _, _, i + 1, v, .cons _ b, e => by
    obtain ⟨d, h1, h2⟩ := DqAll.get (i := i) (v := v) b (by simpa using e)
    exact ⟨d, by simpa using h1, h2⟩
theorem DqAll.getD : ∀ {vs : List V} {ds : List D} {i : Nat} {d : D}, DqAll K H vs ds → ds[i]? = some d → ∃ v, vs[i]? = some v ∧ Dq K H v d
  | _, _, _, _, .nil, e => by simp at e
  | _, _, 0, _, .cons a _, e => by simp at e; subst e; exact ⟨_, rfl, a⟩
  | _, _, i + 1, v, .cons _ b, e => by
    obtain ⟨d, h1, h2⟩ := DqAll.getD (i := i) (d := v) b (by simpa using e)
    exact ⟨d, by simpa using h1, h2⟩
theorem DqAll.append : ∀ {vs ws : List V} {ds es : List D}, DqAll K H vs ds → DqAll K H ws es → DqAll K H (vs ++ ws) (ds ++ es)
  | _, _, _, _, .nil, h => h
  | _, _, _, _, .cons a b, h => .cons a (DqAll.append b h)
theorem DqAll.take : ∀ {vs : List V} {ds : List D} (n : Nat), DqAll K H vs ds → DqAll K H (vs.take n) (ds.take n)
  | _, _, 0, _ => by simp; exact .nil
  | _, _, _ + 1, .nil => by simp; exact .nil
  | _, _, n + 1, .cons a b => .cons a (DqAll.take n b)
theorem DqAll.drop : ∀ {vs : List V} {ds : List D} (n : Nat), DqAll K H vs ds → DqAll K H (vs.drop n) (ds.drop n)
  | _, _, 0, h => h
  | _, _, _ + 1, .nil => .nil
  | _, _, n + 1, .cons _ b => DqAll.drop n b
theorem DqAll.set {v : V} {d : D} (h : Dq K H v d) : ∀ {vs : List V} {ds : List D} (i : Nat), DqAll K H vs ds → DqAll K H (vs.set i v) (ds.set i d)
  | _, _, _, .nil => .nil
  | _, _, 0, .cons _ b => .cons h b
  | _, _, i + 1, .cons a b => .cons a (DqAll.set h i b)
theorem DqAll.reverse {vs : List V} {ds : List D} (h : DqAll K H vs ds) : DqAll K H vs.reverse ds.reverse := by
  induction vs generalizing ds with
  | nil => cases h; exact .nil
  | cons v vs ih =>
    cases h with
    | cons a b => rw [List.reverse_cons, List.reverse_cons]; exact (ih b).append (.cons a .nil)
end

/-! ### owned data, slots, environments -/
/-- an exception: its class by its name, its fields, the last one first -/
structure Xn where
  cls : Str
  fs : List (Str × D)
inductive OV where
  | lst (ds : List D)
  | st (cells : List Int) (turn : Int)
  /-- a dict of frozen data -/
  | dct (kvs : List (Key × D))
  /-- a list of lists that are owned too -/
  | nl (dss : List (List D))
  /-- an exception that was caught -/
  | exc (x : Xn)
  /-- a tuple of lists that are owned -/
  | tl (dss : List (List D))
inductive SV where
  | fro (d : D)
  | own (o : OV)
  | raw (v : V)
  | scr (ns : List Int)
abbrev En := List (Option SV)
inductive RV where
  | fro (d : D)
  | new (o : OV)
  | at_ (i : Nat)
  | raw (v : V)
inductive R (α : Type) where
  | ok (a : α) (ε : En)
  | err (x : Xn) (ε : En)
  | bad
abbrev M (α : Type) := En → R α
def R.bind {α β : Type} : R α → (α → En → R β) → R β
  | .ok a ε, f => f a ε
  | .err x ε, _ => .err x ε
  | .bad, _ => .bad

structure Ct where
  K : PySem.W.Frag
  own : List Nat
  vs : List V
  W : WX

inductive KvAll (K : PySem.W.Frag) (Hf : Hp) : List (Key × V) → List (Key × D) → Prop
  | nil : KvAll K Hf [] []
  | cons {k : Key} {v : V} {d : D} {vs : List (Key × V)} {ds : List (Key × D)} : Dq K Hf v d → KvAll K Hf vs ds → KvAll K Hf ((k, v) :: vs) ((k, d) :: ds)
theorem KvAll.mono {K : PySem.W.Frag} {Hf Hf' : Hp} (s : Same Hf Hf') : ∀ {vs : List (Key × V)} {ds : List (Key × D)}, KvAll K Hf vs ds → KvAll K Hf' vs ds
  | _, _, .nil => .nil
  | _, _, .cons a b => .cons (a.mono s) (b.mono s)
inductive NlR (K : PySem.W.Frag) (Hf H : Hp) : List Addr → List (List D) → Prop
  | nil : NlR K Hf H [] []
  | cons {q : Addr} {vs : List V} {ds : List D} {qs : List Addr} {dss : List (List D)} : H q = some (.lst vs) → DqAll K Hf vs ds → NlR K Hf H qs dss → NlR K Hf H (q :: qs) (ds :: dss)
theorem NlR.keep {K : PySem.W.Frag} {Hf Hf' H H' : Hp} (s : Same Hf Hf') : ∀ {qs : List Addr} {dss : List (List D)}, NlR K Hf H qs dss → (∀ a ∈ qs, H' a = H a) → NlR K Hf' H' qs dss
  | _, _, .nil, _ => .nil
  | _, _, .cons h a b, k => .cons (by rw [k _ List.mem_cons_self]; exact h) (a.mono s) (b.keep s fun x hx => k x (List.mem_cons_of_mem _ hx))
theorem NlR.there {K : PySem.W.Frag} {Hf H : Hp} : ∀ {qs : List Addr} {dss : List (List D)}, NlR K Hf H qs dss → ∀ a ∈ qs, H a ≠ none
  | _, _, .cons h _ b, a, z => by
    rcases List.mem_cons.mp z with rfl | z
    · rw [h]; simp
    · exact b.there a z

/-- at a: an exception that was caught, of the class cls, its dict d -/
def exh (a : Addr) (cls : Value) (d : Option Addr) : HO := .ext fun h => ∃ oe vs, h.get? a = some oe ∧ Zc cls d oe ∧ oe.data = .fields vs
/-- what an exception is: the class by its name in the module, the fields in the frozen part -/
def XnR (K : PySem.W.Frag) (Hf : Hp) (cls : Value) (d : Option Addr) (x : Xn) : Prop :=
  ∃ C : Addr, cls = .ref C ∧ PySem.W.nsIn K mainGlobals x.cls = some (some (.ref C)) ∧
    ((d = none ∧ x.fs = []) ∨ ∃ dd vs, d = some dd ∧ Hf dd = some (.xd vs) ∧ Paired (fun (p : Str × V) (q : Str × D) => p.1 = q.1 ∧ Dq K Hf p.2 q.2) vs x.fs)
theorem XnR.mono {K : PySem.W.Frag} {Hf Hf' : Hp} {cls : Value} {d : Option Addr} {x : Xn} (s : Same Hf Hf') (h : XnR K Hf cls d x) : XnR K Hf' cls d x := by
  obtain ⟨C, h1, h2, h3⟩ := h
  refine ⟨C, h1, h2, h3.imp id ?_⟩
  rintro ⟨dd, vs, e, q, p⟩
  exact ⟨dd, vs, e, s _ _ q, Paired.mapP p fun _ _ z => ⟨z.1, z.2.mono s⟩⟩

def OwnR (K : PySem.W.Frag) (Hf H : Hp) (p : Addr) (S : Addr → Prop) : OV → Prop
  | .lst ds => (∀ a, S a ↔ a = p) ∧ ∃ vs, H p = some (.lst vs) ∧ DqAll K Hf vs ds
  | .st cs t => ∃ q, q ≠ p ∧ (∀ a, S a ↔ (a = p ∨ a = q)) ∧ H p = some (.dK [(.inr "cells", .ref q), (.inr "turn", .int t)]) ∧ H q = some (.lst (cs.map .int))
  | .dct kvs => (∀ a, S a ↔ a = p) ∧ ∃ kvv, H p = some (.dK kvv) ∧ KvAll K Hf kvv kvs
  | .nl dss => ∃ qs, (p :: qs).Nodup ∧ (∀ a, S a ↔ a ∈ p :: qs) ∧ H p = some (.lst (qs.map V.ref)) ∧ NlR K Hf H qs dss
  | .exc x => (∀ a, ¬ S a) ∧ ∃ cls d, Hf p = some (exh p cls d) ∧ XnR K Hf cls d x
  | .tl dss => ∃ qs, (p :: qs).Nodup ∧ (∀ a, S a ↔ a ∈ p :: qs) ∧ H p = some (.tup (qs.map V.ref)) ∧ NlR K Hf H qs dss

def SlotR (K : PySem.W.Frag) (Hf H : Hp) (S : Addr → Prop) (s : Option (Option V)) : Option (Option SV) → Prop
  | some (some (.fro d)) => (∀ a, ¬ S a) ∧ ∃ v, s = some (some v) ∧ Dq K Hf v d
  | some (some (.own o)) => ∃ p, s = some (some (.ref p)) ∧ OwnR K Hf H p S o
  | some (some (.raw v)) => (∀ a, ¬ S a) ∧ s = some (some v)
  | some (some (.scr ns)) => (∀ a, ¬ S a) ∧ ∃ p, s = some (some (.ref p)) ∧ SqL K Hf p (ns.map V.int)
  | _ => ∀ a, ¬ S a

structure EnR (C : Ct) (Hf H : Hp) (w : Own) (σ : St) (ε : En) : Prop where
  sub : Same Hf H
  slot : ∀ i, SlotR C.K Hf H (w i) σ[i]? ε[i]?
  sep : ∀ i j a, w i a → w j a → i = j
  fre : ∀ i a, w i a → Hf a = none
  len : σ.length = ε.length
  fix : ∀ i v, C.own.contains i = true → C.vs[i]? = some v → σ[i]? = some (some v)

def O (w : Own) : Addr → Prop := fun a => ∃ i, w i a

structure Stp (Hf H : Hp) (o : Addr → Prop) (Hf' H' : Hp) (o' : Addr → Prop) : Prop where
  mono : Same Hf Hf'
  rest : ∀ a, H a ≠ none → ¬ o a → H' a = H a ∧ Hf' a = Hf a ∧ ¬ o' a
theorem Stp.refl {Hf H : Hp} {o : Addr → Prop} : Stp Hf H o Hf H o := ⟨Same.refl _, fun _ _ h => ⟨rfl, rfl, h⟩⟩
theorem Stp.trans {Hf H Hf1 H1 Hf2 H2 : Hp} {o o1 o2 : Addr → Prop} (a : Stp Hf H o Hf1 H1 o1) (b : Stp Hf1 H1 o1 Hf2 H2 o2) : Stp Hf H o Hf2 H2 o2 where
  mono := a.mono.trans b.mono
  rest := fun x h n => by
    obtain ⟨e1, e2, n1⟩ := a.rest x h n
    obtain ⟨f1, f2, n2⟩ := b.rest x (by rw [e1]; exact h) n1
    exact ⟨f1.trans e1, f2.trans e2, n2⟩
theorem Stp.out {Hf H Hf' H' : Hp} {o o' o'' : Addr → Prop} (a : Stp Hf H o Hf' H' o') (h : ∀ x, o'' x → o' x) : Stp Hf H o Hf' H' o'' :=
  ⟨a.mono, fun x e n => let ⟨h1, h2, h3⟩ := a.rest x e n; ⟨h1, h2, fun z => h3 (h x z)⟩⟩
section
variable {K : PySem.W.Frag} {Hf H Hf' H' : Hp} {S : Addr → Prop} {p : Addr} {ov : OV}
/-- what is owned stands -/
theorem OwnR.there (h : OwnR K Hf H p S ov) : ∀ a, S a → H a ≠ none := by
  cases ov with
  | lst ds => obtain ⟨h1, vs, h2, _⟩ := h; intro a ha; rw [(h1 a).mp ha, h2]; simp
  | st cs t =>
    obtain ⟨q, _, h1, h2, h3⟩ := h
    intro a ha
    rcases (h1 a).mp ha with e | e
    · rw [e, h2]; simp
    · rw [e, h3]; simp
  | dct kvs => obtain ⟨h1, vs, h2, _⟩ := h; intro a ha; rw [(h1 a).mp ha, h2]; simp
  | nl dss =>
    obtain ⟨qs, _, h1, h2, h3⟩ := h
    intro a ha
    rcases List.mem_cons.mp ((h1 a).mp ha) with e | e
    · rw [e, h2]; simp
    · exact h3.there a e
  | exc x => exact fun a ha => absurd ha (h.1 a)
  | tl dss =>
    obtain ⟨qs, _, h1, h2, h3⟩ := h
    intro a ha
    rcases List.mem_cons.mp ((h1 a).mp ha) with e | e
    · rw [e, h2]; simp
    · exact h3.there a e
theorem OwnR.keep (h : OwnR K Hf H p S ov) (s : Same Hf Hf') (k : ∀ a, S a → H' a = H a) : OwnR K Hf' H' p S ov := by
  cases ov with
  | lst ds =>
    obtain ⟨h1, vs, h2, h3⟩ := h
    exact ⟨h1, vs, by rw [k p ((h1 p).mpr rfl)]; exact h2, h3.mono s⟩
  | st cs t =>
    obtain ⟨q, h0, h1, h2, h3⟩ := h
    exact ⟨q, h0, h1, by rw [k p ((h1 p).mpr (.inl rfl))]; exact h2, by rw [k q ((h1 q).mpr (.inr rfl))]; exact h3⟩
  | dct kvs =>
    obtain ⟨h1, vs, h2, h3⟩ := h
    exact ⟨h1, vs, by rw [k p ((h1 p).mpr rfl)]; exact h2, h3.mono s⟩
  | nl dss =>
    obtain ⟨qs, h0, h1, h2, h3⟩ := h
    exact ⟨qs, h0, h1, by rw [k p ((h1 p).mpr List.mem_cons_self)]; exact h2, h3.keep s fun a ha => k a ((h1 a).mpr (List.mem_cons_of_mem _ ha))⟩
  | exc x =>
    obtain ⟨h1, cls, d, h2, h3⟩ := h
    exact ⟨h1, cls, d, s _ _ h2, h3.mono s⟩
  | tl dss =>
    obtain ⟨qs, h0, h1, h2, h3⟩ := h
    exact ⟨qs, h0, h1, by rw [k p ((h1 p).mpr List.mem_cons_self)]; exact h2, h3.keep s fun a ha => k a ((h1 a).mpr (List.mem_cons_of_mem _ ha))⟩
theorem SlotR.keep {s : Option (Option V)} {e : Option (Option SV)} (h : SlotR K Hf H S s e) (sm : Same Hf Hf') (k : ∀ a, S a → H' a = H a) : SlotR K Hf' H' S s e := by
  match e, h with
  | some (some (.fro d)), ⟨h0, v, h1, h2⟩ => exact ⟨h0, v, h1, h2.mono sm⟩
  | some (some (.own o)), ⟨p, h1, h2⟩ => exact ⟨p, h1, h2.keep sm k⟩
  | some (some (.raw v)), h => exact h
  | some (some (.scr ns)), ⟨h0, p, h1, h2⟩ => exact ⟨h0, p, h1, sm.seq h2⟩
  | some none, h => exact h
  | none, h => exact h
theorem SlotR.there {s : Option (Option V)} {e : Option (Option SV)} (h : SlotR K Hf H S s e) : ∀ a, S a → H a ≠ none := by
  match e, h with
  | some (some (.fro d)), ⟨h0, _⟩ => exact fun a z => absurd z (h0 a)
  | some (some (.own o)), ⟨p, h1, h2⟩ => exact h2.there
  | some (some (.raw v)), ⟨h0, _⟩ => exact fun a z => absurd z (h0 a)
  | some (some (.scr ns)), ⟨h0, _⟩ => exact fun a z => absurd z (h0 a)
  | some none, h => exact fun a z => absurd z (h a)
  | none, h => exact fun a z => absurd z (h a)
end

/-! ### what results are -/
abbrev Rl (α β : Type) := Ct → Hp → Hp → Own → St → (Addr → Prop) → β → α → Prop
def relRV : Rl RV V := fun C Hf H w σ S v r => match r with
  | .fro d => (∀ a, ¬ S a) ∧ Dq C.K Hf v d
  | .new o => ∃ p, v = .ref p ∧ OwnR C.K Hf H p S o ∧ (∀ a, S a → Hf a = none) ∧ ∀ i a, w i a → ¬ S a
  | .at_ i => (∀ a, ¬ S a) ∧ σ[i]? = some (some v)
  | .raw u => (∀ a, ¬ S a) ∧ v = u
/-- operands: nothing is owned by the value -/
def opR (C : Ct) (Hf : Hp) (σ : St) (v : V) : RV → Prop
  | .fro d => Dq C.K Hf v d
  | .new _ => False
  | .at_ i => σ[i]? = some (some v)
  | .raw u => v = u
def relO : Rl RV V := fun C Hf H w σ S v r => (∀ a, ¬ S a) ∧ opR C Hf σ v r
inductive opRs (C : Ct) (Hf : Hp) (σ : St) : List V → List RV → Prop
  | nil : opRs C Hf σ [] []
  | cons {v : V} {vs : List V} {r : RV} {rs : List RV} : opR C Hf σ v r → opRs C Hf σ vs rs → opRs C Hf σ (v :: vs) (r :: rs)
def relOs : Rl (List RV) (List V) := fun C Hf H w σ S vs rs => (∀ a, ¬ S a) ∧ opRs C Hf σ vs rs
def relB : Rl Bool Bool := fun C Hf H w σ S b c => (∀ a, ¬ S a) ∧ b = c
theorem opR.mono {C : Ct} {Hf Hf' : Hp} {σ : St} {v : V} {r : RV} (s : Same Hf Hf') (h : opR C Hf σ v r) : opR C Hf' σ v r := by
  cases r with
  | fro d => exact Dq.mono s h
  | new o => exact h
  | at_ i => exact h
  | raw u => exact h
theorem opRs.mono {C : Ct} {Hf Hf' : Hp} {σ : St} (s : Same Hf Hf') : ∀ {vs : List V} {rs : List RV}, opRs C Hf σ vs rs → opRs C Hf' σ vs rs
  | _, _, .nil => .nil
  | _, _, .cons a b => .cons (a.mono s) (opRs.mono s b)

def PostX {α β : Type} (C : Ct) (Rel : Rl α β) (Hf H : Hp) (w : Own) (σ : St) (Q : β → Hp → Prop) : R α → Prop
  | .ok a ε' => ∀ Hf' H' w' S b, EnR C Hf' H' w' σ ε' → Stp Hf H (O w) Hf' H' (fun x => O w' x ∨ S x) → Rel C Hf' H' w' σ S b a → Q b H'
  | .err x ε' => ∀ Hf' H' w' cls d, EnR C Hf' H' w' σ ε' → Stp Hf H (O w) Hf' H' (O w') → XnR C.K Hf' cls d x → C.W cls d σ H'
  | .bad => False
abbrev TX (β : Type) := St → Hp → (β → Hp → Prop) → Prop
def Snd {α β : Type} (C : Ct) (Rel : Rl α β) (t : TX β) (m : M α) : Prop :=
  ∀ Hf H w σ ε Q, EnR C Hf H w σ ε → PostX C Rel Hf H w σ Q (m ε) → t σ H Q

theorem PostX.step {α β : Type} {C : Ct} {Rel : Rl α β} {Hf H Hf1 H1 : Hp} {w w1 : Own} {σ : St} {Q : β → Hp → Prop} {r : R α} (s : Stp Hf H (O w) Hf1 H1 (O w1)) (h : PostX C Rel Hf H w σ Q r) : PostX C Rel Hf1 H1 w1 σ Q r := by
  cases r with
  | ok a ε' => exact fun Hf' H' w' S b E st r => h Hf' H' w' S b E (s.trans st) r
  | err x ε' => exact fun Hf' H' w' cls d E st r => h Hf' H' w' cls d E (s.trans st) r
  | bad => exact h

/-- end a value here: nothing changed -/
theorem PostX.here {α β : Type} {C : Ct} {Rel : Rl α β} {Hf H : Hp} {w : Own} {σ : St} {ε : En} {Q : β → Hp → Prop} {a : α} {b : β} (E : EnR C Hf H w σ ε) (h : PostX C Rel Hf H w σ Q (.ok a ε)) (r : Rel C Hf H w σ (fun _ => False) b a) : Q b H :=
  h Hf H w (fun _ => False) b E (Stp.refl.out fun x z => z.elim id False.elim) r

theorem Stp.noS {Hf H Hf' H' : Hp} {o : Addr → Prop} {w' : Own} {S : Addr → Prop} (s : Stp Hf H o Hf' H' (fun x => O w' x ∨ S x)) : Stp Hf H o Hf' H' (O w') := s.out fun _ z => .inl z

/-- one thing behind another, the first one owning nothing -/
theorem Snd.bind {α1 β1 α2 β2 : Type} {C : Ct} {Rel1 : Rl α1 β1} {Rel2 : Rl α2 β2} {t1 : TX β1} {m1 : M α1} {t2 : β1 → TX β2} {m2 : α1 → M α2} (h1 : Snd C Rel1 t1 m1)
    (h2 : ∀ Hf H w σ ε S b a Q, EnR C Hf H w σ ε → Rel1 C Hf H w σ S b a → PostX C Rel2 Hf H w σ Q (m2 a ε) → t2 b σ H Q) : Snd C Rel2 (fun σ H Q => t1 σ H fun b H1 => t2 b σ H1 Q) (fun ε => (m1 ε).bind m2) := by
  intro Hf H w σ ε Q E P
  refine h1 Hf H w σ ε _ E ?_
  cases e : m1 ε with
  | ok a ε1 =>
    have P' : PostX C Rel2 Hf H w σ Q (m2 a ε1) := by have q := P; simp only [e, R.bind] at q; exact q
    intro Hf1 H1 w1 S b E1 st r
    exact h2 Hf1 H1 w1 σ ε1 S b a Q E1 r (P'.step st.noS)
  | err x ε1 =>
    have P' : PostX C Rel2 Hf H w σ Q (.err x ε1) := by have q := P; simp only [e, R.bind] at q; exact q
    exact P'
  | bad =>
    have q := P
    simp only [e, R.bind] at q
    exact q
end M3

namespace M3
open PySem PySem.Spec L2
open PyProof.Rows hiding St

/-! ### a slot set anew -/
def wSet (w : Own) (i : Nat) (S : Addr → Prop) : Own := fun j a => (j = i ∧ S a) ∨ (j ≠ i ∧ w j a)
theorem wSet_self {w : Own} {i : Nat} {S : Addr → Prop} {a : Addr} : wSet w i S i a ↔ S a := by
  unfold wSet; constructor
  · rintro (⟨_, h⟩ | ⟨h, _⟩)
    · exact h
    · exact absurd rfl h
  · exact fun h => .inl ⟨rfl, h⟩
theorem wSet_ne {w : Own} {i j : Nat} {S : Addr → Prop} {a : Addr} (h : j ≠ i) : wSet w i S j a ↔ w j a := by
  unfold wSet; constructor
  · rintro (⟨z, _⟩ | ⟨_, q⟩)
    · exact absurd z h
    · exact q
  · exact fun q => .inr ⟨h, q⟩
theorem SlotR.congr {K : PySem.W.Frag} {Hf H : Hp} {S S' : Addr → Prop} {s : Option (Option V)} {e : Option (Option SV)} (h : ∀ a, S' a ↔ S a) (r : SlotR K Hf H S s e) : SlotR K Hf H S' s e := by
  have q : S' = S := by funext a; exact propext (h a)
  rw [q]; exact r

section
variable {C : Ct} {Hf H Hf' H' : Hp} {w : Own} {σ : L2.St} {ε : En} {S : Addr → Prop}
theorem EnR.there (E : EnR C Hf H w σ ε) {i : Nat} {a : Addr} (h : w i a) : H a ≠ none := (E.slot i).there a h
theorem EnR.put (E : EnR C Hf H w σ ε) {i : Nat} (hi : i < σ.length) (sm : Same Hf Hf') (sb : Same Hf' H') (kp : ∀ j a, j ≠ i → w j a → H' a = H a) (s' : Option V) (e' : Option SV) (hS : SlotR C.K Hf' H' S (some s') (some e'))
    (dis : ∀ j a, j ≠ i → w j a → ¬ S a) (fr : ∀ j a, j ≠ i → w j a → Hf' a = none) (frS : ∀ a, S a → Hf' a = none) (hf : C.own.contains i = true → ∀ v, C.vs[i]? = some v → s' = some v) :
    EnR C Hf' H' (wSet w i S) (σ.set i s') (ε.set i e') where
  sub := sb
  slot := fun j => by
    by_cases hj : j = i
    · subst hj
      rw [List.getElem?_set_self hi, List.getElem?_set_self (by rw [← E.len]; exact hi)]
      exact hS.congr fun a => wSet_self
    · rw [List.getElem?_set_ne (Ne.symm hj), List.getElem?_set_ne (Ne.symm hj)]
      exact ((E.slot j).keep sm fun a z => kp j a hj z).congr fun a => wSet_ne hj
  sep := fun j k a h1 h2 => by
    rcases h1 with ⟨rfl, h1⟩ | ⟨n1, h1⟩ <;> rcases h2 with ⟨e2, h2⟩ | ⟨n2, h2⟩
    · exact e2.symm
    · exact absurd h1 (dis k a n2 h2)
    · exact absurd h2 (dis j a n1 h1)
    · exact E.sep j k a h1 h2
  fre := fun j a h => by
    rcases h with ⟨_, h⟩ | ⟨n, h⟩
    · exact frS a h
    · exact fr j a n h
  len := by rw [List.length_set, List.length_set]; exact E.len
  fix := fun j v h1 h2 => by
    by_cases hj : j = i
    · subst hj
      rw [List.getElem?_set_self hi, hf h1 v h2]
    · rw [List.getElem?_set_ne (Ne.symm hj)]; exact E.fix j v h1 h2
theorem set_same {α : Type} {l : List α} {i : Nat} {x : α} (h : l[i]? = some x) : l.set i x = l := by
  apply List.ext_getElem?
  intro j
  by_cases hj : j = i
  · subst hj
    have hi : j < l.length := by
      obtain ⟨h1, _⟩ := List.getElem?_eq_some_iff.mp h
      exact h1
    rw [List.getElem?_set_self hi, h]
  · rw [List.getElem?_set_ne (Ne.symm hj)]
theorem lt_of_get {α : Type} {l : List α} {i : Nat} {x : α} (h : l[i]? = some x) : i < l.length := (List.getElem?_eq_some_iff.mp h).1
/-- an owned list in slot i -/
theorem EnR.ownLst (E : EnR C Hf H w σ ε) {i : Nat} {ds : List D} (e : ε[i]? = some (some (.own (.lst ds)))) :
    ∃ p vs, σ[i]? = some (some (.ref p)) ∧ H p = some (.lst vs) ∧ DqAll C.K Hf vs ds ∧ Hf p = none ∧ (∀ a, w i a ↔ a = p) := by
  have q := E.slot i
  rw [e] at q
  obtain ⟨p, h1, h2, vs, h3, h4⟩ := q
  exact ⟨p, vs, h1, h3, h4, E.fre i p ((h2 p).mpr rfl), h2⟩
/-- it is frozen -/
theorem EnR.freeze (E : EnR C Hf H w σ ε) {i : Nat} {ds : List D} (e : ε[i]? = some (some (.own (.lst ds)))) :
    ∃ p Hf' w', σ[i]? = some (some (.ref p)) ∧ Dq C.K Hf' (.ref p) (.list ds) ∧ EnR C Hf' H w' σ (ε.set i (some (.fro (.list ds)))) ∧ Stp Hf H (O w) Hf' H (O w') ∧ ∀ j a, w' j a → w j a := by
  obtain ⟨p, vs, h1, h2, h3, h4, h5⟩ := E.ownLst e
  have sm : Same Hf (upd Hf p (.lst vs)) := same_upd h4
  have sb : Same (upd Hf p (.lst vs)) H := fun b o q => by
    by_cases hb : b = p
    · subst hb; rw [upd_same] at q; cases q; exact h2
    · rw [upd_ne hb] at q; exact E.sub b o q
  have dq : Dq C.K (upd Hf p (.lst vs)) (.ref p) (.list ds) := .lst upd_same (h3.mono sm)
  refine ⟨p, upd Hf p (.lst vs), wSet w i fun _ => False, h1, dq, ?_, ⟨sm, fun a ha na => ⟨rfl, ?_, ?_⟩⟩, ?_⟩
  · have q := E.put (S := fun _ => False) (lt_of_get h1) sm sb (fun _ _ _ _ => rfl) (some (.ref p)) (some (.fro (.list ds))) ⟨fun _ z => z, _, rfl, dq⟩ (fun _ _ _ _ z => z)
      (fun j a hj hw => by
        have : a ≠ p := fun z => hj (E.sep j i a hw ((h5 a).mpr z))
        rw [upd_ne this]; exact E.fre j a hw) (fun _ z => z.elim)
      (fun hc v hv => by
        have := E.fix i v hc hv
        rw [h1] at this
        exact Option.some.inj this)
    rw [set_same h1] at q
    exact q
  · have : a ≠ p := fun z => na ⟨i, (h5 a).mpr z⟩
    rw [upd_ne this]
  · rintro ⟨j, ⟨_, z⟩ | ⟨n, z⟩⟩
    · exact z
    · exact na ⟨j, z⟩
  · rintro j a (⟨_, z⟩ | ⟨n, z⟩)
    · exact z.elim
    · exact z
/-- a new owned list that nobody holds is frozen -/
theorem EnR.freezeNew (E : EnR C Hf H w σ ε) {p : Addr} {ds : List D} (o : OwnR C.K Hf H p S (.lst ds)) (f : ∀ a, S a → Hf a = none) (d : ∀ i a, w i a → ¬ S a) :
    ∃ Hf', Dq C.K Hf' (.ref p) (.list ds) ∧ EnR C Hf' H w σ ε ∧ ∀ {Hf0 H0 : Hp} {o0 : Addr → Prop}, Stp Hf0 H0 o0 Hf H (fun x => O w x ∨ S x) → Stp Hf0 H0 o0 Hf' H (O w) := by
  obtain ⟨h1, vs, h2, h3⟩ := o
  have h4 : Hf p = none := f p ((h1 p).mpr rfl)
  have sm : Same Hf (upd Hf p (.lst vs)) := same_upd h4
  have nw : ∀ i a, w i a → a ≠ p := fun i a hw z => d i a hw ((h1 a).mpr z)
  refine ⟨upd Hf p (.lst vs), .lst upd_same (h3.mono sm), ⟨fun b o q => ?_, fun i => (E.slot i).keep sm fun _ _ => rfl, E.sep, fun i a hw => by rw [upd_ne (nw i a hw)]; exact E.fre i a hw, E.len, E.fix⟩, ?_⟩
  · by_cases hb : b = p
    · subst hb; rw [upd_same] at q; cases q; exact h2
    · rw [upd_ne hb] at q; exact E.sub b o q
  · intro Hf0 H0 o0 st
    refine ⟨st.mono.trans sm, fun a ha na => ?_⟩
    obtain ⟨e1, e2, n⟩ := st.rest a ha na
    have : a ≠ p := fun z => n (.inr ((h1 a).mpr z))
    exact ⟨e1, by rw [upd_ne this]; exact e2, fun z => n (.inl z)⟩
/-- a new object laid, frozen at once -/
theorem EnR.lay (E : EnR C Hf H w σ ε) {p : Addr} {o : HO} (hp : H p = none) : EnR C (upd Hf p o) (upd H p o) w σ ε := by
  have hfp : Hf p = none := by
    cases q : Hf p with
    | none => rfl
    | some u => have := E.sub p u q; rw [hp] at this; cases this
  have nw : ∀ i a, w i a → a ≠ p := fun i a hw z => by have := E.there hw; rw [z, hp] at this; exact this rfl
  refine ⟨fun b u q => ?_, fun i => (E.slot i).keep (same_upd hfp) fun a hw => upd_ne (nw i a hw), E.sep, fun i a hw => by rw [upd_ne (nw i a hw)]; exact E.fre i a hw, E.len, E.fix⟩
  by_cases hb : b = p
  · subst hb; rw [upd_same] at q ⊢; exact q
  · rw [upd_ne hb] at q ⊢; exact E.sub b u q
theorem same_none (E : Same Hf H) {p : Addr} (hp : H p = none) : Hf p = none := by
  cases q : Hf p with
  | none => rfl
  | some u => have := E p u q; rw [hp] at this; cases this
theorem Stp.lay {o : Addr → Prop} {p : Addr} {u : HO} (sub : Same Hf H) (hp : H p = none) : Stp Hf H o (upd Hf p u) (upd H p u) o := by
  refine ⟨same_upd (same_none sub hp), fun a ha na => ?_⟩
  have : a ≠ p := fun z => ha (by rw [z]; exact hp)
  exact ⟨upd_ne this, upd_ne this, na⟩
/-- a new object laid, not frozen -/
theorem EnR.layNew (E : EnR C Hf H w σ ε) {p : Addr} {o : HO} (hp : H p = none) : EnR C Hf (upd H p o) w σ ε := by
  have nw : ∀ i a, w i a → a ≠ p := fun i a hw z => by have := E.there hw; rw [z, hp] at this; exact this rfl
  refine ⟨fun b u q => ?_, fun i => (E.slot i).keep (Same.refl _) fun a hw => upd_ne (nw i a hw), E.sep, E.fre, E.len, E.fix⟩
  have e := E.sub b u q
  have : b ≠ p := fun z => by rw [z, hp] at e; cases e
  rw [upd_ne this]; exact e
theorem EnR.nw (E : EnR C Hf H w σ ε) {p : Addr} (hp : H p = none) : ∀ i a, w i a → a ≠ p := fun i a hw z => by have := E.there hw; rw [z, hp] at this; exact this rfl
theorem Stp.layNew {w : Own} {p : Addr} {u : HO} (hp : H p = none) : Stp Hf H (O w) Hf (upd H p u) (fun x => O w x ∨ x = p) := by
  refine ⟨Same.refl _, fun a ha na => ?_⟩
  have : a ≠ p := fun z => ha (by rw [z]; exact hp)
  exact ⟨upd_ne this, rfl, fun z => z.elim na this⟩
end

def relD : Rl D V := fun C Hf H w σ S v d => (∀ a, ¬ S a) ∧ Dq C.K Hf v d

/-! ### values as operands, as frozen data -/
def mUnnew (r : RV) : M RV := fun ε => match r with
  | .new (.lst ds) => .ok (.fro (.list ds)) ε
  | .new _ => .bad
  | r => .ok r ε
def mFrz (r : RV) : M D := fun ε => match r with
  | .fro d => .ok d ε
  | .at_ i => match ε[i]? with
    | some (some (.own (.lst ds))) => .ok (.list ds) (ε.set i (some (.fro (.list ds))))
    | some (some (.fro d)) => .ok d ε
    | _ => .bad
  | _ => .bad
def oE (m : M RV) : M RV := fun ε => (m ε).bind mUnnew
def fE (m : M RV) : M D := fun ε => (m ε).bind mFrz
section
variable {C : Ct} {t : TE} {m : M RV}
theorem Snd.op (h : Snd C relRV t m) : Snd C relO t (oE m) := by
  intro Hf H w σ ε Q E P
  refine h Hf H w σ ε Q E ?_
  have P' : PostX C relO Hf H w σ Q ((m ε).bind mUnnew) := P
  cases e : m ε with
  | err x ε1 => rw [e] at P'; exact P'
  | bad => rw [e] at P'; exact P'
  | ok a ε1 =>
    rw [e] at P'
    intro Hf1 H1 w1 S b E1 st r
    cases a with
    | fro d => exact P' Hf1 H1 w1 (fun _ => False) b E1 (st.out fun x z => z.elim .inl False.elim) ⟨fun _ z => z, r.2⟩
    | at_ i => exact P' Hf1 H1 w1 (fun _ => False) b E1 (st.out fun x z => z.elim .inl False.elim) ⟨fun _ z => z, r.2⟩
    | raw u => exact P' Hf1 H1 w1 (fun _ => False) b E1 (st.out fun x z => z.elim .inl False.elim) ⟨fun _ z => z, r.2⟩
    | new o =>
      cases o with
      | lst ds =>
        obtain ⟨p, rfl, r1, r2, r3⟩ := r
        obtain ⟨Hf2, dq, E2, st2⟩ := E1.freezeNew r1 r2 r3
        exact P' Hf2 H1 w1 (fun _ => False) (.ref p) E2 ((st2 st).out fun x z => z.elim id False.elim) ⟨fun _ z => z, dq⟩
      | _ => exact False.elim P'
theorem Snd.frz (h : Snd C relO t m) : Snd C relD t (fE m) := by
  intro Hf H w σ ε Q E P
  refine h Hf H w σ ε Q E ?_
  have P' : PostX C relD Hf H w σ Q ((m ε).bind mFrz) := P
  cases e : m ε with
  | err x ε1 => rw [e] at P'; exact P'
  | bad => rw [e] at P'; exact P'
  | ok a ε1 =>
    rw [e] at P'
    intro Hf1 H1 w1 S b E1 st r
    cases a with
    | fro d => exact P' Hf1 H1 w1 (fun _ => False) b E1 (st.out fun x z => z.elim .inl False.elim) ⟨fun _ z => z, r.2⟩
    | new o => exact r.2.elim
    | raw u => exact False.elim P'
    | at_ i =>
      have P2 : PostX C relD Hf H w σ Q (mFrz (.at_ i) ε1) := P'
      unfold mFrz at P2
      dsimp only at P2
      obtain ⟨r0, r1⟩ := r
      split at P2
      · rename_i ds e1
        obtain ⟨p, Hf2, w2, s1, dq, E2, st2, _⟩ := E1.freeze e1
        rw [r1] at s1
        cases s1
        exact P2 Hf2 H1 w2 (fun _ => False) (.ref p) E2 ((st.noS.trans st2).out fun x z => z.elim id False.elim) ⟨fun _ z => z, dq⟩
      · rename_i d e1
        have q := E1.slot i
        rw [e1] at q
        obtain ⟨q0, v, q1, q2⟩ := q
        rw [r1] at q1
        cases q1
        exact P2 Hf1 H1 w1 (fun _ => False) b E1 (st.out fun x z => z.elim .inl False.elim) ⟨fun _ z => z, q2⟩
      · exact False.elim P2
end
/-! ### names, constants -/
def mVar (i : Nat) : M RV := fun ε => match ε[i]? with
  | some (some (.fro d)) => .ok (.fro d) ε
  | some (some (.own _)) => .ok (.at_ i) ε
  | some (some (.raw v)) => .ok (.raw v) ε
  | some (some (.scr _)) => .ok (.at_ i) ε
  | _ => .bad
def mC (d : D) : M RV := fun ε => .ok (.fro d) ε
section
variable {C : Ct}
theorem snd_var (i : Nat) : Snd C relRV (tVar i) (mVar i) := by
  intro Hf H w σ ε Q E P
  have q := E.slot i
  unfold mVar at P
  split at P
  · rename_i d e
    rw [e] at q
    obtain ⟨q0, v, q1, q2⟩ := q
    exact ⟨v, q1, P.here E ⟨fun _ z => z, q2⟩⟩
  · rename_i o e
    rw [e] at q
    obtain ⟨p, q1, _⟩ := q
    exact ⟨_, q1, P.here E ⟨fun _ z => z, q1⟩⟩
  · rename_i v e
    rw [e] at q
    obtain ⟨q0, q1⟩ := q
    exact ⟨v, q1, P.here E ⟨fun _ z => z, rfl⟩⟩
  · rename_i ns e
    rw [e] at q
    obtain ⟨q0, p, q1, _⟩ := q
    exact ⟨_, q1, P.here E ⟨fun _ z => z, q1⟩⟩
  · exact False.elim P
theorem snd_int (i : Int) : Snd C relRV (tC (.int i)) (mC (.int i)) := fun _ _ _ _ _ _ E P => P.here E ⟨fun _ z => z, .int i⟩
theorem snd_bl (b : Bool) : Snd C relRV (tC (.bl b)) (mC (.bool b)) := fun _ _ _ _ _ _ E P => P.here E ⟨fun _ z => z, .bl b⟩
theorem snd_str (x : Str) : Snd C relRV (tC (.str x)) (mC (.str x)) := fun _ _ _ _ _ _ E P => P.here E ⟨fun _ z => z, .str x⟩
theorem snd_non : Snd C relRV (tC .non) (mC .none) := fun _ _ _ _ _ _ E P => P.here E ⟨fun _ z => z, .non⟩
end

/-! ### looking at operands -/
/-- what an operand shows now -/
def view (ε : En) : RV → Option D
  | .fro d => some d
  | .at_ i => match ε[i]? with
    | some (some (.own (.lst ds))) => some (.list ds)
    | some (some (.fro d)) => some d
    | _ => none
  | _ => none
/-- a value's top by the whole heap, its parts frozen -/
def Vw (C : Ct) (Hf H : Hp) (v : V) : D → Prop
  | .list ds => ∃ p vs, v = .ref p ∧ H p = some (.lst vs) ∧ DqAll C.K Hf vs ds
  | d => Dq C.K Hf v d
inductive VwAll (C : Ct) (Hf H : Hp) : List V → List D → Prop
  | nil : VwAll C Hf H [] []
  | cons {v : V} {vs : List V} {d : D} {ds : List D} : Vw C Hf H v d → VwAll C Hf H vs ds → VwAll C Hf H (v :: vs) (d :: ds)
theorem Vw.of {C : Ct} {Hf H : Hp} {v : V} {d : D} (s : Same Hf H) (h : Dq C.K Hf v d) : Vw C Hf H v d := by
  cases d with
  | list ds =>
    cases h with
    | lst h1 h2 => exact ⟨_, _, rfl, s _ _ h1, h2⟩
  | _ => exact h
theorem Vw.dq {C : Ct} {Hf H : Hp} {v : V} {d : D} (s : Same Hf H) (h : Vw C Hf H v d) : Dq C.K H v d := by
  cases d with
  | list ds =>
    obtain ⟨p, vs, rfl, h1, h2⟩ := h
    exact .lst h1 (h2.mono s)
  | _ => exact Dq.mono s h
theorem opR.view {C : Ct} {Hf H : Hp} {w : Own} {σ : L2.St} {ε : En} {v : V} {r : RV} {d : D} (E : EnR C Hf H w σ ε) (h : opR C Hf σ v r) (e : view ε r = some d) : Vw C Hf H v d := by
  cases r with
  | fro d' => cases e; exact Vw.of E.sub h
  | new o => exact h.elim
  | raw u => cases e
  | at_ i =>
    have h' : σ[i]? = some (some v) := h
    unfold M3.view at e
    dsimp only at e
    split at e
    · rename_i ds e1
      cases e
      obtain ⟨p, vs, s1, s2, s3, _⟩ := E.ownLst e1
      rw [h'] at s1
      cases s1
      exact ⟨p, vs, rfl, s2, s3⟩
    · rename_i d' e1
      cases e
      have q := E.slot i
      rw [e1] at q
      obtain ⟨q0, u, q1, q2⟩ := q
      rw [h'] at q1
      cases q1
      exact Vw.of E.sub q2
    · cases e
def viewAll (ε : En) : List RV → Option (List D)
  | [] => some []
  | r :: rs => match view ε r, viewAll ε rs with
    | some d, some ds => some (d :: ds)
    | _, _ => none
theorem opRs.view {C : Ct} {Hf H : Hp} {w : Own} {σ : L2.St} {ε : En} (E : EnR C Hf H w σ ε) : ∀ {vs : List V} {rs : List RV} {ds : List D}, opRs C Hf σ vs rs → viewAll ε rs = some ds → VwAll C Hf H vs ds
  | _, _, _, .nil, e => by cases e; exact .nil
  | _, _, _, .cons a b, e => by
    unfold viewAll at e
    split at e
    · rename_i d ds e1 e2
      cases e
      exact .cons (a.view E e1) (opRs.view E b e2)
    · cases e

/-! ### what built-in operations give -/
inductive Out where
  | val (d : D)
  | newl (ds : List D)
  | newt (ds : List D)
  | newd (kvs : List (Key × D))
  | raw (v : V)
def OutP (C : Ct) (Hf H : Hp) (Q : VK) : Option Out → Prop
  | some (.val d) => ∀ v, Dq C.K Hf v d → Q v H
  | some (.newl ds) => ∀ p vs, H p = none → DqAll C.K Hf vs ds → Q (.ref p) (upd H p (.lst vs))
  | some (.newt ds) => ∀ p vs, H p = none → DqAll C.K Hf vs ds → Q (.ref p) (upd H p (.tup vs))
  | some (.newd kvs) => ∀ p vs, H p = none → KvAll C.K Hf vs kvs → Q (.ref p) (upd H p (.dK vs))
  | some (.raw v) => Q v H
  | none => False
def outR (o : Option Out) : M RV := fun ε => match o with
  | some (.val d) => .ok (.fro d) ε
  | some (.newl ds) => .ok (.new (.lst ds)) ε
  | some (.newt ds) => .ok (.fro (.tuple ds)) ε
  | some (.newd kvs) => .ok (.new (.dct kvs)) ε
  | some (.raw v) => .ok (.raw v) ε
  | none => .bad
theorem OutP.of {C : Ct} {Hf H : Hp} {w : Own} {σ : L2.St} {ε : En} {Q : VK} {o : Option Out} (E : EnR C Hf H w σ ε) (P : PostX C relRV Hf H w σ Q (outR o ε)) : OutP C Hf H Q o := by
  match o with
  | none => exact P
  | some (.val d) => exact fun v h => P.here E ⟨fun _ z => z, h⟩
  | some (.raw v) => exact P.here E ⟨fun _ z => z, rfl⟩
  | some (.newt ds) =>
    intro p vs hp h
    have P' : PostX C relRV Hf H w σ Q (.ok (.fro (.tuple ds)) ε) := P
    exact P' (upd Hf p (.tup vs)) (upd H p (.tup vs)) w (fun _ => False) (.ref p) (E.lay hp) ((Stp.lay E.sub hp).out fun _ z => z.elim id False.elim)
      ⟨fun _ z => z, .tup (SqT.of upd_same) (h.mono (same_upd (same_none E.sub hp)))⟩
  | some (.newl ds) =>
    intro p vs hp h
    have P' : PostX C relRV Hf H w σ Q (.ok (.new (.lst ds)) ε) := P
    exact P' Hf (upd H p (.lst vs)) w (fun x => x = p) (.ref p) (E.layNew hp) (Stp.layNew hp)
      ⟨p, rfl, ⟨fun _ => Iff.rfl, vs, upd_same, h⟩, fun a z => by rw [z]; exact same_none E.sub hp, fun i a hw z => E.nw hp i a hw z⟩
  | some (.newd kvs) =>
    intro p vs hp h
    have P' : PostX C relRV Hf H w σ Q (.ok (.new (.dct kvs)) ε) := P
    exact P' Hf (upd H p (.dK vs)) w (fun x => x = p) (.ref p) (E.layNew hp) (Stp.layNew hp)
      ⟨p, rfl, ⟨fun _ => Iff.rfl, vs, upd_same, h⟩, fun a z => by rw [z]; exact same_none E.sub hp, fun i a hw z => E.nw hp i a hw z⟩

/-! ### argument lists -/
def msNil : M (List RV) := fun ε => .ok [] ε
def msCons (m : M RV) (ms : M (List RV)) : M (List RV) := fun ε => (m ε).bind fun r ε1 => (ms ε1).bind fun rs ε2 => .ok (r :: rs) ε2
section
variable {C : Ct} {ta tb : TE} {m m1 m2 : M RV} {tr : TA} {ms : M (List RV)}
theorem snd_nil : Snd C relOs tNil msNil := fun _ _ _ _ _ _ E P => P.here E ⟨fun _ z => z, .nil⟩
theorem snd_cons (h1 : Snd C relO ta m) (h2 : Snd C relOs tr ms) : Snd C relOs (tCons ta tr) (msCons m ms) := by
  intro Hf H w σ ε Q E P
  refine h1 Hf H w σ ε _ E ?_
  have P' : PostX C relOs Hf H w σ Q ((m ε).bind fun r ε1 => (ms ε1).bind fun rs ε2 => .ok (r :: rs) ε2) := P
  cases e : m ε with
  | err x ε1 => rw [e] at P'; exact P'
  | bad => rw [e] at P'; exact P'
  | ok r ε1 =>
    rw [e] at P'
    replace P' : PostX C relOs Hf H w σ Q ((ms ε1).bind fun rs ε2 => .ok (r :: rs) ε2) := P'
    intro Hf1 H1 w1 S b E1 st rb
    refine h2 Hf1 H1 w1 σ ε1 _ E1 ?_
    have P1 := P'.step st.noS
    cases e2 : ms ε1 with
    | err x ε2 => rw [e2] at P1; exact P1
    | bad => rw [e2] at P1; exact P1
    | ok rs ε2 =>
      rw [e2] at P1
      replace P1 : PostX C relOs Hf1 H1 w1 σ Q (.ok (r :: rs) ε2) := P1
      intro Hf2 H2 w2 S2 bs E2 st2 rbs
      exact P1 Hf2 H2 w2 S2 (b :: bs) E2 st2 ⟨rbs.1, .cons (rb.2.mono st2.mono) rbs.2⟩
/-- a call of something built in -/
def CallS (C : Ct) (r : List V → Hp → VK → Prop) (g : List D → Option Out) : Prop :=
  ∀ Hf H xs ds Q, Same Hf H → VwAll C Hf H xs ds → OutP C Hf H Q (g ds) → r xs H Q
def mCallB (g : List D → Option Out) (ms : M (List RV)) : M RV := fun ε => (ms ε).bind fun rs ε1 => match viewAll ε1 rs with
  | some ds => outR (g ds) ε1
  | none => .bad
theorem snd_callB {r : List V → Hp → VK → Prop} {g : List D → Option Out} (hc : CallS C r g) (h : Snd C relOs tr ms) : Snd C relRV (fun σ H Q => tr σ H fun vs H1 => r vs H1 Q) (mCallB g ms) :=
  Snd.bind h fun Hf H w σ ε S b a Q E rb P => by
    split at P
    · rename_i ds e
      exact hc Hf H b ds Q E.sub (rb.2.view E e) (OutP.of E P)
    · exact P.elim
/-- a two-place operation -/
def OpS (C : Ct) (r : R2) (g : D → D → Option Out) : Prop :=
  ∀ Hf H x y d e Q, Same Hf H → Vw C Hf H x d → Vw C Hf H y e → OutP C Hf H Q (g d e) → r x y H Q
def mOp (g : D → D → Option Out) (m1 m2 : M RV) : M RV := fun ε => (m1 ε).bind fun a ε1 => (m2 ε1).bind fun b ε2 => match view ε2 a, view ε2 b with
  | some d, some e => outR (g d e) ε2
  | _, _ => .bad
theorem snd_op {r : R2} {g : D → D → Option Out} (hc : OpS C r g) (h1 : Snd C relO ta m1) (h2 : Snd C relO tb m2) : Snd C relRV (tOp r ta tb) (mOp g m1 m2) := by
  intro Hf H w σ ε Q E P
  refine h1 Hf H w σ ε _ E ?_
  have P' : PostX C relRV Hf H w σ Q ((m1 ε).bind fun a ε1 => (m2 ε1).bind fun b ε2 => match view ε2 a, view ε2 b with
    | some d, some e => outR (g d e) ε2
    | _, _ => .bad) := P
  cases e : m1 ε with
  | err x ε1 => rw [e] at P'; exact P'
  | bad => rw [e] at P'; exact P'
  | ok r1 ε1 =>
    rw [e] at P'
    intro Hf1 H1 w1 S b E1 st rb
    refine h2 Hf1 H1 w1 σ ε1 _ E1 ?_
    have P1 := P'.step st.noS
    simp only [R.bind] at P1
    cases e2 : m2 ε1 with
    | err x ε2 => rw [e2] at P1; exact P1
    | bad => rw [e2] at P1; exact P1
    | ok r2 ε2 =>
      rw [e2] at P1
      simp only [R.bind] at P1
      intro Hf2 H2 w2 S2 b2 E2 st2 rb2
      have P2 := P1.step st2.noS
      split at P2
      · rename_i d1 d2 v1 v2
        exact hc Hf2 H2 b b2 d1 d2 Q E2.sub ((rb.2.mono st2.mono).view E2 v1) (rb2.2.view E2 v2) (OutP.of E2 P2)
      · exact P2.elim
/-- a one-place operation -/
def UnS (C : Ct) (r : V → Hp → VK → Prop) (g : D → Option Out) : Prop :=
  ∀ Hf H x d Q, Same Hf H → Vw C Hf H x d → OutP C Hf H Q (g d) → r x H Q
def mUn (g : D → Option Out) (m : M RV) : M RV := fun ε => (m ε).bind fun a ε1 => match view ε1 a with
  | some d => outR (g d) ε1
  | none => .bad
theorem snd_un {r : V → Hp → VK → Prop} {g : D → Option Out} (hc : UnS C r g) (h : Snd C relO ta m) : Snd C relRV (tUn r ta) (mUn g m) := by
  refine Snd.bind (Rel1 := relO) (t1 := ta) (t2 := fun x σ H Q => r x H Q) h fun Hf H w σ ε S b a Q E rb P => ?_
  · split at P
    · rename_i d e
      exact hc Hf H b d Q E.sub (rb.2.view E e) (OutP.of E P)
    · exact P.elim
end
end M3

namespace M3
open PySem PySem.Spec L2
open PyProof.Rows hiding St

/-! ### statements -/
inductive SR where
  | nx (ε : En)
  | rt (r : RV) (ε : En)
  | bk (ε : En)
  | ct (ε : En)
  | err (x : Xn) (ε : En)
  | bad
def PostS (C : Ct) (Hf H : Hp) (w : Own) (D : Ends) : SR → Prop
  | .nx ε' => ∀ Hf' H' w' σ', EnR C Hf' H' w' σ' ε' → Stp Hf H (O w) Hf' H' (O w') → D.nx σ' H'
  | .rt r ε' => ∀ Hf' H' w' σ' S v, EnR C Hf' H' w' σ' ε' → Stp Hf H (O w) Hf' H' (fun x => O w' x ∨ S x) → relRV C Hf' H' w' σ' S v r → D.rt v H'
  | .bk ε' => ∀ Hf' H' w' σ', EnR C Hf' H' w' σ' ε' → Stp Hf H (O w) Hf' H' (O w') → D.bk σ' H'
  | .ct ε' => ∀ Hf' H' w' σ', EnR C Hf' H' w' σ' ε' → Stp Hf H (O w) Hf' H' (O w') → D.ct σ' H'
  | .err x ε' => ∀ Hf' H' w' σ' cls d, EnR C Hf' H' w' σ' ε' → Stp Hf H (O w) Hf' H' (O w') → XnR C.K Hf' cls d x → C.W cls d σ' H'
  | .bad => False
abbrev Sm := En → SR
def SndS (C : Ct) (t : TS) (m : Sm) : Prop := ∀ Hf H w σ ε D, EnR C Hf H w σ ε → PostS C Hf H w D (m ε) → t D σ H
theorem PostS.step {C : Ct} {Hf H Hf1 H1 : Hp} {w w1 : Own} {D : Ends} {r : SR} (s : Stp Hf H (O w) Hf1 H1 (O w1)) (h : PostS C Hf H w D r) : PostS C Hf1 H1 w1 D r := by
  cases r with
  | nx ε' => exact fun Hf' H' w' σ' E st => h Hf' H' w' σ' E (s.trans st)
  | rt r ε' => exact fun Hf' H' w' σ' S v E st => h Hf' H' w' σ' S v E (s.trans st)
  | bk ε' => exact fun Hf' H' w' σ' E st => h Hf' H' w' σ' E (s.trans st)
  | ct ε' => exact fun Hf' H' w' σ' E st => h Hf' H' w' σ' E (s.trans st)
  | err x ε' => exact fun Hf' H' w' σ' cls d E st => h Hf' H' w' σ' cls d E (s.trans st)
  | bad => exact h
/-- a value first, then on -/
def R.toS {α : Type} : R α → (α → En → SR) → SR
  | .ok a ε, f => f a ε
  | .err x ε, _ => .err x ε
  | .bad, _ => .bad
theorem Snd.toS {α β : Type} {C : Ct} {Rel : Rl α β} {t : TX β} {m : M α} {f : α → En → SR} {D : Ends} {Hf H : Hp} {w : Own} {σ : L2.St} {ε : En} {k : β → Hp → Prop} (h : Snd C Rel t m) (E : EnR C Hf H w σ ε) (P : PostS C Hf H w D ((m ε).toS f))
    (hk : ∀ a ε1 Hf1 H1 w1 S b, m ε = .ok a ε1 → EnR C Hf1 H1 w1 σ ε1 → Stp Hf H (O w) Hf1 H1 (fun x => O w1 x ∨ S x) → Rel C Hf1 H1 w1 σ S b a → PostS C Hf H w D (f a ε1) → k b H1) : t σ H k := by
  refine h Hf H w σ ε k E ?_
  cases e : m ε with
  | ok a ε1 =>
    rw [e] at P
    exact fun Hf1 H1 w1 S b E1 st r => hk a ε1 Hf1 H1 w1 S b e E1 st r P
  | err x ε1 =>
    rw [e] at P
    exact fun Hf' H' w' cls d E1 st r => P Hf' H' w' σ cls d E1 st r
  | bad => rw [e] at P; exact P

/-! ### blocks, returns -/
def SR.seq : SR → Sm → SR
  | .nx ε, f => f ε
  | r, _ => r
def sSeq (m1 m2 : Sm) : Sm := fun ε => (m1 ε).seq m2
def sNext : Sm := fun ε => .nx ε
def sBad : Sm := fun _ => .bad
def sExpr (m : M RV) : Sm := fun ε => (m ε).toS fun _ ε1 => .nx ε1
def sRet (m : M RV) : Sm := fun ε => (m ε).toS fun r ε1 => .rt r ε1
def sIf (c : M Bool) (a b : Sm) : Sm := fun ε => (c ε).toS fun k ε1 => if k = true then a ε1 else b ε1
section
variable {C : Ct} {t u : TS} {m1 m2 : Sm} {te : TE} {m : M RV} {tc : TT} {c : M Bool}
theorem snds_next : SndS C tNext sNext := fun Hf H w σ ε D E P => P Hf H w σ E Stp.refl
theorem snds_seq (h1 : SndS C t m1) (h2 : SndS C u m2) : SndS C (tSeq t u) (sSeq m1 m2) := by
  intro Hf H w σ ε D E P
  refine h1 Hf H w σ ε _ E ?_
  have P' : PostS C Hf H w D ((m1 ε).seq m2) := P
  cases e : m1 ε with
  | nx ε1 =>
    rw [e] at P'
    exact fun Hf1 H1 w1 σ1 E1 st => h2 Hf1 H1 w1 σ1 ε1 D E1 (PostS.step st P')
  | rt r ε1 => rw [e] at P'; exact P'
  | bk ε1 => rw [e] at P'; exact P'
  | ct ε1 => rw [e] at P'; exact P'
  | err x ε1 => rw [e] at P'; exact P'
  | bad => rw [e] at P'; exact P'
theorem snds_expr (h : Snd C relRV te m) : SndS C (tDrop te) (sExpr m) := by
  intro Hf H w σ ε D E P
  exact h.toS E P fun a ε1 Hf1 H1 w1 S b _ E1 st r P1 => P1 Hf1 H1 w1 σ E1 st.noS
theorem snds_ret (h : Snd C relRV te m) : SndS C (tRet te) (sRet m) := by
  intro Hf H w σ ε D E P
  exact h.toS E P fun a ε1 Hf1 H1 w1 S b _ E1 st r P1 => P1 Hf1 H1 w1 σ S b E1 st r
theorem snds_if (hc : Snd C relB tc c) (h1 : SndS C t m1) (h2 : SndS C u m2) : SndS C (tIfS tc t u) (sIf c m1 m2) := by
  intro Hf H w σ ε D E P
  refine hc.toS E P fun k ε1 Hf1 H1 w1 S b _ E1 st r P1 => ?_
  obtain ⟨_, rfl⟩ := r
  cases b with
  | true => exact h1 Hf1 H1 w1 σ ε1 D E1 (PostS.step st.noS P1)
  | false => exact h2 Hf1 H1 w1 σ ε1 D E1 (PostS.step st.noS P1)
end

/-! ### a name stored -/
def mStore (i : Nat) (r : RV) (ε : En) : Option En :=
  if i < ε.length then
    match r with
    | .fro d => some (ε.set i (some (.fro d)))
    | .new o => some (ε.set i (some (.own o)))
    | .raw v => some (ε.set i (some (.raw v)))
    | .at_ j => match ε[j]? with
      | some (some (.own (.lst ds))) => some ((ε.set j (some (.fro (.list ds)))).set i (some (.fro (.list ds))))
      | some (some (.fro d)) => some (ε.set i (some (.fro d)))
      | _ => none
  else none
section
variable {C : Ct} {Hf H : Hp} {w : Own} {σ : L2.St} {ε ε' : En} {S : Addr → Prop} {v : V} {r : RV} {i : Nat}
theorem store_put (E : EnR C Hf H w σ ε) (hi : i < σ.length) (hf : C.own.contains i = false) (e' : SV) (hS : SlotR C.K Hf H S (some (some v)) (some (some e'))) (d : ∀ j a, w j a → ¬ S a) (fr : ∀ a, S a → Hf a = none) :
    EnR C Hf H (wSet w i S) (σ.set i (some v)) (ε.set i (some e')) ∧ ∀ {Hf0 H0 : Hp} {o0 : Addr → Prop}, Stp Hf0 H0 o0 Hf H (fun x => O w x ∨ S x) → Stp Hf0 H0 o0 Hf H (O (wSet w i S)) := by
  refine ⟨E.put hi (Same.refl _) E.sub (fun _ _ _ _ => rfl) (some v) (some e') hS (fun j a _ h => d j a h) (fun j a _ h => E.fre j a h) fr (fun hc => by rw [hf] at hc; cases hc), fun st => st.out ?_⟩
  rintro x ⟨j, ⟨_, z⟩ | ⟨n, z⟩⟩
  · exact .inr z
  · exact .inl ⟨j, z⟩
theorem store_ok (E : EnR C Hf H w σ ε) (rv : relRV C Hf H w σ S v r) (e : mStore i r ε = some ε') (hf : C.own.contains i = false) :
    ∃ Hf' w', EnR C Hf' H w' (σ.set i (some v)) ε' ∧ ∀ {Hf0 H0 : Hp} {o0 : Addr → Prop}, Stp Hf0 H0 o0 Hf H (fun x => O w x ∨ S x) → Stp Hf0 H0 o0 Hf' H (O w') := by
  unfold mStore at e
  split at e
  · rename_i hi
    rw [← E.len] at hi
    have fro : ∀ d, r = .fro d → Dq C.K Hf v d → some (ε.set i (some (.fro d))) = some ε' → (∀ a, ¬ S a) → ∃ Hf' w', EnR C Hf' H w' (σ.set i (some v)) ε' ∧ ∀ {Hf0 H0 : Hp} {o0 : Addr → Prop}, Stp Hf0 H0 o0 Hf H (fun x => O w x ∨ S x) → Stp Hf0 H0 o0 Hf' H (O w') :=
      fun d _ q e n => by
        cases e
        obtain ⟨E', st⟩ := store_put (S := S) (v := v) E hi hf (.fro d) ⟨n, v, rfl, q⟩ (fun j a _ z => n a z) (fun a z => (n a z).elim)
        exact ⟨Hf, _, E', st⟩
    cases r with
    | fro d => exact fro d rfl rv.2 e rv.1
    | raw u =>
      obtain ⟨n, rfl⟩ := rv
      cases e
      obtain ⟨E', st⟩ := store_put (S := S) (v := v) E hi hf (.raw v) ⟨n, rfl⟩ (fun j a _ z => n a z) (fun a z => (n a z).elim)
      exact ⟨Hf, _, E', st⟩
    | new o =>
      obtain ⟨p, rfl, r1, r2, r3⟩ := rv
      cases e
      obtain ⟨E', st⟩ := store_put (S := S) (v := .ref p) E hi hf (.own o) ⟨p, rfl, r1⟩ r3 r2
      exact ⟨Hf, _, E', st⟩
    | at_ j =>
      obtain ⟨n, s1⟩ := rv
      dsimp only at e
      split at e
      · rename_i ds e1
        cases e
        obtain ⟨p, Hf2, w2, s2, dq, E2, st2, sub2⟩ := E.freeze e1
        rw [s1] at s2
        cases s2
        obtain ⟨E', st⟩ := store_put (S := S) (v := .ref p) E2 hi hf (.fro (.list ds)) ⟨n, _, rfl, dq⟩ (fun j a _ z => n a z) (fun a z => (n a z).elim)
        exact ⟨Hf2, _, E', fun s0 => st (Stp.out (s0.noS.trans st2) fun x z => z.elim id fun q => (n x q).elim)⟩
      · rename_i d e1
        have q := E.slot j
        rw [e1] at q
        obtain ⟨q0, u, q1, q2⟩ := q
        rw [s1] at q1
        cases q1
        cases e
        obtain ⟨E', st⟩ := store_put (S := S) (v := v) E hi hf (.fro d) ⟨n, v, rfl, q2⟩ (fun j a _ z => n a z) (fun a z => (n a z).elim)
        exact ⟨Hf, _, E', st⟩
      · cases e
  · cases e
end
def sSet (i : Nat) (m : M RV) : Sm := fun ε => (m ε).toS fun r ε1 => match mStore i r ε1 with
  | some ε2 => .nx ε2
  | none => .bad
theorem snds_set {C : Ct} {te : TE} {m : M RV} {i : Nat} (hf : C.own.contains i = false) (h : Snd C relRV te m) : SndS C (tAsg te (gName i)) (sSet i m) := by
  intro Hf H w σ ε D E P
  refine h.toS E P fun r ε1 Hf1 H1 w1 S b _ E1 st rv P1 => ?_
  split at P1
  · rename_i ε2 e
    obtain ⟨Hf2, w2, E2, st2⟩ := store_ok E1 rv e hf
    exact P1 Hf2 H1 w2 _ E2 (st2 st)
  · exact P1.elim

/-! ### targets of loops: patterns -/
inductive Pat where
  | nm (i : Nat)
  | tp (ps : List Pat)
mutual
def bindP : Pat → D → En → Option En
  | .nm i, d, ε => if i < ε.length then some (ε.set i (some (.fro d))) else none
  | .tp ps, .tuple ds, ε => bindPs ps ds ε
  | .tp ps, .list ds, ε => bindPs ps ds ε
  | .tp _, _, _ => none
def bindPs : List Pat → List D → En → Option En
  | [], [], ε => some ε
  | p :: ps, d :: ds, ε => match bindP p d ε with
    | some ε1 => bindPs ps ds ε1
    | none => none
  | _, _, _ => none
end
/-- only the slots vs may change -/
def Only (vs : List Nat) (σ σ' : L2.St) : Prop := σ'.length = σ.length ∧ ∀ j, vs.contains j = false → σ'[j]? = σ[j]?
def PatS (C : Ct) (g : TG) (vs : List Nat) (p : Pat) : Prop := ∀ Hf H w σ ε v d ε' Q, EnR C Hf H w σ ε → Dq C.K Hf v d → bindP p d ε = some ε' →
  (∀ σ' w', EnR C Hf H w' σ' ε' → Stp Hf H (O w) Hf H (O w') → Only vs σ σ' → Q σ' H) → g v σ H Q
def PatSs (C : Ct) (g : TGs) (vs : List Nat) (ps : List Pat) : Prop := ∀ Hf H w σ ε us ds ε' Q, EnR C Hf H w σ ε → DqAll C.K Hf us ds → bindPs ps ds ε = some ε' →
  (∀ σ' w', EnR C Hf H w' σ' ε' → Stp Hf H (O w) Hf H (O w') → Only vs σ σ' → Q σ' H) → g us σ H Q
theorem Only.refl {vs : List Nat} {σ : L2.St} : Only vs σ σ := ⟨rfl, fun _ _ => rfl⟩
theorem Only.trans {vs : List Nat} {a b c : L2.St} (h : Only vs a b) (k : Only vs b c) : Only vs a c := ⟨k.1.trans h.1, fun j hj => (k.2 j hj).trans (h.2 j hj)⟩
theorem pat_nm {C : Ct} {vs : List Nat} {i : Nat} (hf : C.own.contains i = false) (hv : vs.contains i = true) : PatS C (gName i) vs (.nm i) := by
  intro Hf H w σ ε v d ε' Q E q e k
  unfold bindP at e
  split at e
  · rename_i hi
    cases e
    rw [← E.len] at hi
    obtain ⟨E', st⟩ := store_put (S := fun _ => False) (v := v) E hi hf (.fro d) ⟨fun _ z => z, v, rfl, q⟩ (fun _ _ _ z => z) (fun _ z => z.elim)
    refine k _ _ E' (st (Stp.refl.out fun x z => z.elim id False.elim)) ⟨List.length_set, fun j hj => ?_⟩
    have : i ≠ j := fun z => by rw [← z, hv] at hj; cases hj
    exact List.getElem?_set_ne this
  · cases e
theorem pats_nil {C : Ct} {vs : List Nat} : PatSs C gNil vs [] := by
  intro Hf H w σ ε us ds ε' Q E q e k
  cases q with
  | nil => cases e; exact ⟨rfl, k σ w E Stp.refl Only.refl⟩
  | cons _ _ => cases e
theorem pats_cons {C : Ct} {vs : List Nat} {g : TG} {gs : TGs} {p : Pat} {ps : List Pat} (h : PatS C g vs p) (hs : PatSs C gs vs ps) : PatSs C (gCons g gs) vs (p :: ps) := by
  intro Hf H w σ ε us ds ε' Q E q e k
  cases q with
  | nil => cases e
  | cons a b =>
    unfold bindPs at e
    split at e
    · rename_i ε1 e1
      exact ⟨_, _, rfl, h Hf H w σ ε _ _ ε1 _ E a e1 fun σ1 w1 E1 st1 o1 => hs Hf H w1 σ1 ε1 _ _ ε' Q E1 b e fun σ2 w2 E2 st2 o2 => k σ2 w2 E2 (st1.trans st2) (o1.trans o2)⟩
    · cases e
def gSeq (K : PySem.W.Frag) (n : Nat) (t : TGs) : TG := fun v σ H Q => gTup K n t v σ H Q ∨ gLst K n t v σ H Q
theorem bindPs_len : ∀ {ps : List Pat} {ds : List D} {ε ε' : En}, bindPs ps ds ε = some ε' → ds.length = ps.length
  | [], [], _, _, _ => rfl
  | [], _ :: _, _, _, e => by cases e
  | _ :: _, [], _, _, e => by cases e
  | p :: ps, d :: ds, ε, ε', e => by
    unfold bindPs at e
    split at e
    · exact congrArg Nat.succ (bindPs_len e)
    · cases e
theorem pat_tp {C : Ct} {vs : List Nat} {gs : TGs} {ps : List Pat} {n : Nat} (h : PatSs C gs vs ps) (hn : ps.length = n) : PatS C (gSeq C.K n gs) vs (.tp ps) := by
  intro Hf H w σ ε v d ε' Q E q e k
  cases q with
  | tup h1 h2 =>
    exact .inl ⟨_, _, rfl, Same.tup E.sub h1, by rw [h2.length, bindPs_len e, hn], h Hf H w σ ε _ _ ε' Q E h2 e k⟩
  | lst h1 h2 =>
    exact .inr ⟨_, _, rfl, SqL.of (E.sub _ _ h1), by rw [h2.length, bindPs_len e, hn], h Hf H w σ ε _ _ ε' Q E h2 e k⟩
  | _ => cases e
theorem pg_seq {X : Cx} {es : List Expr} {k : Nat} {t : TGs} {n : Nat} {pos : Pos} (hc : X.calm = true) (h : PGs X es t)
    (hn : (assignEach es X.env).length = n := by rfl) (hst : (assignEach es X.env).findIdx? (·.1) = none := by rfl) : PG X (.Tuple es k pos) (gSeq X.K n t) := by
  refine ⟨fun pins s σ H v u Q I r hw => ?_⟩
  rcases hw with hw | hw
  · exact (pg_tup hc h hn hst).run pins s σ H v u Q I r hw
  · exact (pg_lst hc h hn hst).run pins s σ H v u Q I r hw

/-! ### what is walked -/
def ItR (C : Ct) (Hf : Hp) (J : It) (ds : List D) : Prop := ∃ (G : Hp → Prop) (Y : Nat → Hp → V → Hp → Prop), Walk J ds.length G Y ∧ (∀ H', Same Hf H' → G H') ∧
  ∀ Hf' H' i x H'', i < ds.length → Same Hf Hf' → Same Hf' H' → Y i H' x H'' → ∃ d, ds[i]? = some d ∧
    ((H'' = H' ∧ Dq C.K Hf' x d) ∨ ∃ p o, H' p = none ∧ H'' = upd H' p o ∧ Dq C.K (upd Hf' p o) x d)
def relI : Rl (List D) It := fun C Hf H w σ S J ds => (∀ a, ¬ S a) ∧ ItR C Hf J ds

/-! ### for -/
def sLoop (p : Pat) (body : Sm) : List D → En → SR
  | [], ε => .nx ε
  | d :: ds, ε => match bindP p d ε with
    | none => .bad
    | some ε1 => match body ε1 with
      | .nx ε2 => sLoop p body ds ε2
      | .ct ε2 => sLoop p body ds ε2
      | .bk ε2 => .nx ε2
      | r => r
def sFor (mi : M (List D)) (p : Pat) (body : Sm) : Sm := fun ε => (mi ε).toS fun ds ε1 => sLoop p body ds ε1
theorem snds_for {C : Ct} {wi : TI} {mi : M (List D)} {g : TG} {vs : List Nat} {p : Pat} {tb : TS} {body : Sm} (hi : Snd C relI wi mi) (hg : PatS C g vs p) (hb : SndS C tb body) : SndS C (tFor wi g tb) (sFor mi p body) := by
  intro Hf H w σ ε D E P
  refine hi.toS E P fun ds ε1 Hf1 H1 w1 S J _ E1 st1 rJ P1 => ?_
  obtain ⟨_, G, Y, wk, hG, hY⟩ := rJ
  have P2 := PostS.step st1.noS P1
  refine for_it wk (fun i σ' H' => ∃ Hf' w' ε', EnR C Hf' H' w' σ' ε' ∧ Stp Hf1 H1 (O w1) Hf' H' (O w') ∧ PostS C Hf' H' w' D (sLoop p body (ds.drop i) ε')) ⟨Hf1, w1, ε1, E1, Stp.refl, P2⟩ ?_ ?_ ?_
  · rintro i σ' H' _ ⟨Hf', w', ε', E', st', _⟩
    exact hG H' (st'.mono.trans E'.sub)
  · rintro i x σ' H' H'' hi' ⟨Hf', w', ε', E', st', P'⟩ y
    obtain ⟨d, hd, hc⟩ := hY Hf' H' i x H'' hi' st'.mono E'.sub y
    have ed : ds.drop i = d :: ds.drop (i + 1) := by
      obtain ⟨h1, h2⟩ := List.getElem?_eq_some_iff.mp hd
      rw [List.drop_eq_getElem_cons h1, h2]
    rw [ed] at P'
    unfold sLoop at P'
    obtain ⟨Hf2, st2, E2, dq⟩ : ∃ Hf2, Stp Hf' H' (O w') Hf2 H'' (O w') ∧ EnR C Hf2 H'' w' σ' ε' ∧ Dq C.K Hf2 x d := by
      rcases hc with ⟨rfl, dq⟩ | ⟨p0, o, hp, rfl, dq⟩
      · exact ⟨Hf', Stp.refl, E', dq⟩
      · exact ⟨_, Stp.lay E'.sub hp, E'.lay hp, dq⟩
    cases e : bindP p d ε' with
    | none => rw [e] at P'; exact P'.elim
    | some ε2 =>
      rw [e] at P'
      dsimp only at P'
      refine hg Hf2 H'' w' σ' ε' x d ε2 _ E2 dq e fun σ3 w3 E3 st3 _ => ?_
      refine hb Hf2 H'' w3 σ3 ε2 _ E3 ?_
      have P3 := PostS.step (st2.trans st3) P'
      have st13 := st'.trans (st2.trans st3)
      cases eb : body ε2 with
      | nx ε4 =>
        rw [eb] at P3
        exact fun Hf4 H4 w4 σ4 E4 st4 => ⟨Hf4, w4, ε4, E4, st13.trans st4, PostS.step st4 P3⟩
      | ct ε4 =>
        rw [eb] at P3
        exact fun Hf4 H4 w4 σ4 E4 st4 => ⟨Hf4, w4, ε4, E4, st13.trans st4, PostS.step st4 P3⟩
      | bk ε4 => rw [eb] at P3; exact P3
      | rt r ε4 => rw [eb] at P3; exact P3
      | err x ε4 => rw [eb] at P3; exact P3
      | bad => rw [eb] at P3; exact P3
  · rintro σ' H' ⟨Hf', w', ε', E', st', P'⟩
    rw [List.drop_length] at P'
    exact P' Hf' H' w' σ' E' Stp.refl

/-! ### while -/
end M3

namespace M3
open PySem PySem.Spec L2
open PyProof.Rows hiding St

abbrev noW : WX := fun _ _ _ _ => False
/-! ### slots wiped and put back (comprehensions) -/
def wipeE (ε : En) : List Nat → En
  | [] => ε
  | v :: vs => (wipeE ε vs).set v none
def restE (ε1 εF : En) : List Nat → En
  | [] => εF
  | v :: vs => (restE ε1 εF vs).set v (ε1.getD v none)
theorem wipe_get (σ : L2.St) : ∀ (vs : List Nat) (j : Nat), (wipe σ vs)[j]? = if vs.contains j = true then (if j < σ.length then some none else none) else σ[j]?
  | [], j => by simp [wipe]
  | v :: vs, j => by
    unfold wipe
    by_cases h : v = j
    · subst h
      have hl : (wipe σ vs).length = σ.length := wipe_length σ vs
      by_cases hv : v < σ.length
      · rw [List.getElem?_set_self (by rw [hl]; exact hv)]; simp [hv]
      · rw [List.getElem?_eq_none (by rw [List.length_set, hl]; omega)]; simp [hv]
    · rw [List.getElem?_set_ne h, wipe_get σ vs j]
      have : (v :: vs).contains j = vs.contains j := by
        rw [List.contains_cons]
        have : (j == v) = false := by simpa using fun z => h z.symm
        rw [this, Bool.false_or]
      rw [this]
theorem wipeE_length (ε : En) : ∀ vs : List Nat, (wipeE ε vs).length = ε.length
  | [] => rfl
  | v :: vs => by unfold wipeE; rw [List.length_set, wipeE_length ε vs]
theorem wipeE_get (ε : En) : ∀ (vs : List Nat) (j : Nat), (wipeE ε vs)[j]? = if vs.contains j = true then (if j < ε.length then some none else none) else ε[j]?
  | [], j => by simp [wipeE]
  | v :: vs, j => by
    unfold wipeE
    by_cases h : v = j
    · subst h
      have hl : (wipeE ε vs).length = ε.length := wipeE_length ε vs
      by_cases hv : v < ε.length
      · rw [List.getElem?_set_self (by rw [hl]; exact hv)]; simp [hv]
      · rw [List.getElem?_eq_none (by rw [List.length_set, hl]; omega)]; simp [hv]
    · rw [List.getElem?_set_ne h, wipeE_get ε vs j]
      have : (v :: vs).contains j = vs.contains j := by
        rw [List.contains_cons]
        have : (j == v) = false := by simpa using fun z => h z.symm
        rw [this, Bool.false_or]
      rw [this]
theorem restE_length (ε1 ε : En) : ∀ vs : List Nat, (restE ε1 ε vs).length = ε.length
  | [] => rfl
  | v :: vs => by unfold restE; rw [List.length_set, restE_length ε1 ε vs]
theorem restE_get (ε1 ε : En) : ∀ (vs : List Nat) (j : Nat), (restE ε1 ε vs)[j]? = if vs.contains j = true then (if j < ε.length then some (ε1.getD j none) else none) else ε[j]?
  | [], j => by simp [restE]
  | v :: vs, j => by
    unfold restE
    by_cases h : v = j
    · subst h
      have hl : (restE ε1 ε vs).length = ε.length := restE_length ε1 ε vs
      by_cases hv : v < ε.length
      · rw [List.getElem?_set_self (by rw [hl]; exact hv)]; simp [hv]
      · rw [List.getElem?_eq_none (by rw [List.length_set, hl]; omega)]; simp [hv]
    · rw [List.getElem?_set_ne h, restE_get ε1 ε vs j]
      have : (v :: vs).contains j = vs.contains j := by
        rw [List.contains_cons]
        have : (j == v) = false := by simpa using fun z => h z.symm
        rw [this, Bool.false_or]
      rw [this]
theorem only_wipe {vs : List Nat} {a b : L2.St} (h : Only vs a b) : wipe b vs = wipe a vs := by
  apply List.ext_getElem?
  intro j
  rw [wipe_get, wipe_get, h.1]
  by_cases hc : vs.contains j = true
  · rw [if_pos hc, if_pos hc]
  · rw [if_neg hc, if_neg hc]; exact h.2 j (by simpa using hc)
theorem wipe_only {vs : List Nat} {σ : L2.St} : Only vs σ (wipe σ vs) := ⟨wipe_length σ vs, fun j hj => by rw [wipe_get, hj]; simp⟩
def wWipe (w : Own) (vs : List Nat) : Own := fun i a => vs.contains i = false ∧ w i a

section
variable {C C' : Ct} {Hf H Hf' H' : Hp} {w w' : Own} {σ : L2.St} {ε ε' : En}
theorem EnR.recast (E : EnR C Hf H w σ ε) (hK : C'.K = C.K) (ho : C'.own = C.own) (hv : C'.vs = C.vs) : EnR C' Hf H w σ ε := by
  obtain ⟨K, o, v, W⟩ := C
  obtain ⟨K', o', v', W'⟩ := C'
  dsimp only at hK ho hv
  subst hK ho hv
  exact ⟨E.sub, E.slot, E.sep, E.fre, E.len, E.fix⟩
theorem EnR.wiped (E : EnR C Hf H w σ ε) {vs : List Nat} (hv : ∀ i, vs.contains i = true → C.own.contains i = false) : EnR C Hf H (wWipe w vs) (wipe σ vs) (wipeE ε vs) where
  sub := E.sub
  slot := fun j => by
    rw [wipe_get, wipeE_get]
    by_cases hc : vs.contains j = true
    · rw [if_pos hc, if_pos hc]
      have nn : ∀ a, ¬ wWipe w vs j a := fun a z => by
        have z1 := z.1
        rw [hc] at z1
        cases z1
      rw [E.len]
      by_cases hj : j < ε.length
      · rw [if_pos hj, if_pos hj]; exact nn
      · rw [if_neg hj, if_neg hj]; exact nn
    · rw [if_neg hc, if_neg hc]
      refine (E.slot j).congr fun a => ⟨fun z => z.2, fun z => ⟨by simpa using hc, z⟩⟩
  sep := fun i j a h1 h2 => E.sep i j a h1.2 h2.2
  fre := fun i a h => E.fre i a h.2
  len := by rw [wipe_length, wipeE_length]; exact E.len
  fix := fun i v h1 h2 => by
    have : ¬ vs.contains i = true := fun z => by rw [hv i z] at h1; cases h1
    rw [wipe_get, if_neg this]
    exact E.fix i v h1 h2
/-- behind a block: the slots vs as they were ahead of it -/
theorem EnR.restored (E : EnR C Hf H w σ ε) {vs : List Nat} {o o' : Addr → Prop} (E' : EnR C Hf' H' w' (wipe σ vs) ε') (st : Stp Hf H o Hf' H' o') (ho : ∀ i a, vs.contains i = true → w i a → ¬ o a) (ho' : ∀ a, O w' a → o' a) :
    EnR C Hf' H' (fun i a => (vs.contains i = true ∧ w i a) ∨ (vs.contains i = false ∧ w' i a)) σ (restE ε ε' vs) := by
  have keepO : ∀ i a, vs.contains i = true → w i a → H' a = H a ∧ Hf' a = Hf a ∧ ¬ o' a := fun i a hc hw => st.rest a (E.there hw) (ho i a hc hw)
  have el : ε.length = ε'.length := by rw [← E.len, ← E'.len, wipe_length]
  refine ⟨E'.sub, fun j => ?_, fun i j a h1 h2 => ?_, fun i a h => ?_, ?_, fun i v h1 h2 => E.fix i v h1 h2⟩
  · rw [restE_get]
    by_cases hc : vs.contains j = true
    · rw [if_pos hc]
      have q := (E.slot j).keep st.mono fun a hw => (keepO j a hc hw).1
      refine SlotR.congr (S := w j) (fun a => ⟨fun z => z.elim And.right fun y => (Bool.noConfusion (hc.symm.trans y.1)), fun z => Or.inl ⟨hc, z⟩⟩) ?_
      by_cases hj : j < ε'.length
      · rw [if_pos hj]
        have hj2 : j < ε.length := by omega
        rw [List.getElem?_eq_getElem hj2] at q
        rw [show ε.getD j none = ε[j] by simp [List.getD, hj2]]
        exact q
      · rw [if_neg hj]
        rw [List.getElem?_eq_none (show ε.length ≤ j by omega)] at q
        exact q
    · rw [if_neg hc]
      have q := E'.slot j
      rw [wipe_get, if_neg hc] at q
      have hc' : vs.contains j = false := by simpa using hc
      exact q.congr fun a => ⟨fun z => z.elim (fun y => Bool.noConfusion (hc'.symm.trans y.1)) And.right, fun z => Or.inr ⟨hc', z⟩⟩
  · rcases h1 with ⟨c1, h1⟩ | ⟨c1, h1⟩ <;> rcases h2 with ⟨c2, h2⟩ | ⟨c2, h2⟩
    · exact E.sep i j a h1 h2
    · exact absurd (ho' a ⟨j, h2⟩) (keepO i a c1 h1).2.2
    · exact absurd (ho' a ⟨i, h1⟩) (keepO j a c2 h2).2.2
    · exact E'.sep i j a h1 h2
  · rcases h with ⟨c, h⟩ | ⟨c, h⟩
    · rw [(keepO i a c h).2.1]; exact E.fre i a h
    · exact E'.fre i a h
  · rw [restE_length, ← el]; exact E.len
/-- an object aside is changed -/
theorem EnR.aside (E : EnR C Hf H w σ ε) {p : Addr} {o : HO} (hf : Hf p = none) (hw : ∀ i a, w i a → a ≠ p) : EnR C Hf (upd H p o) w σ ε :=
  ⟨fun b u q => by
    have : b ≠ p := fun z => by rw [z, hf] at q; cases q
    rw [upd_ne this]; exact E.sub b u q, fun i => (E.slot i).keep (Same.refl _) fun a z => upd_ne (hw i a z), E.sep, E.fre, E.len, E.fix⟩
end

/-! ### list comprehensions -/
def mYes : M Bool := fun ε => .ok true ε
theorem snd_yes {C : Ct} : Snd C relB tYes mYes := fun _ _ _ _ _ _ E P => P.here E ⟨fun _ z => z, rfl⟩
def lcLoop (p : Pat) (vs : List Nat) (c : M Bool) (m : M D) : List D → List D → En → R (List D)
  | [], acc, ε => .ok acc ε
  | d :: ds, acc, ε => match bindP p d ε with
    | none => .bad
    | some ε1 => match c ε1 with
      | .ok true ε2 => (match m ε2 with
        | .ok y ε3 => if acc.length < sizeLine then lcLoop p vs c m ds (acc ++ [y]) (wipeE ε3 vs) else .bad
        | _ => .bad)
      | .ok false ε2 => lcLoop p vs c m ds acc (wipeE ε2 vs)
      | _ => .bad
def mLc (mi : M (List D)) (p : Pat) (vs : List Nat) (c : M Bool) (m : M D) : M RV := fun ε => (mi ε).bind fun ds ε1 => match lcLoop p vs c m ds [] (wipeE ε1 vs) with
  | .ok acc ε2 => .ok (.new (.lst acc)) (restE ε1 ε2 vs)
  | _ => .bad
theorem snd_lc {C C' : Ct} {wi : TI} {mi : M (List D)} {g : TG} {vs : List Nat} {p : Pat} {tt : TT} {c : M Bool} {te : TE} {m : M D} (hv : ∀ i, vs.contains i = true → C.own.contains i = false)
    (hK : C'.K = C.K) (ho : C'.own = C.own) (hvs : C'.vs = C.vs) (hi : Snd C relI wi mi) (hg : PatS C' g vs p) (hc : Snd C' relB tt c) (he : Snd C' relD te m) : Snd C relRV (tLc wi g tt te vs) (mLc mi p vs c m) := by
  refine Snd.bind (Rel1 := relI) (t1 := wi) (t2 := fun (J : It) (σ : L2.St) (H1 : Hp) (Q : VK) => ∀ D : Addr, H1 D = none → ∃ W : Nat → Nat → Hp → Prop, (∃ m, W 0 m (upd H1 D (.lst []))) ∧ ∀ i m H, W i m H →
    (J.stop i H ∧ Q (.ref D) H) ∨ (J.go i H ∧ ∃ Nx : Hp → Prop, (∀ H', Nx H' → ∃ m', m' < m ∧ W (i + 1) m' H') ∧ ∀ x H', J.yld i H x H' → g x (wipe σ vs) H' fun σ2 H2 => wipe σ2 vs = wipe σ vs ∧ tt σ2 H2 fun b H3 =>
      if b = true then te σ2 H3 fun y H4 => ∃ acc, H4 D = some (.lst acc) ∧ acc.length < sizeLine ∧ Nx (upd H4 D (.lst (acc ++ [y]))) else Nx H3)) hi fun Hf H w σ ε S J ds Q E rJ P => ?_
  obtain ⟨_, G, Y, wk, hG, hY⟩ := rJ
  intro D hD
  have hfD : Hf D = none := same_none E.sub hD
  cases eL : lcLoop p vs c m ds [] (wipeE ε vs) with
  | bad => rw [eL] at P; exact P.elim
  | err x ε2 => rw [eL] at P; exact P.elim
  | ok accF εF =>
  rw [eL] at P
  replace P : PostX C relRV Hf H w σ Q (.ok (.new (.lst accF)) (restE ε εF vs)) := P
  have Ew := ((E.wiped hv).recast (C' := C') hK ho hvs)
  refine lc_it (Qd := fun H => Q (.ref D) H) wk (fun i H' => ∃ Hf' w' ε' acc av, EnR C' Hf' H' w' (wipe σ vs) ε' ∧ H' D = some (.lst av) ∧ DqAll C'.K Hf' av acc ∧ Hf' D = none ∧ (∀ i a, w' i a → a ≠ D) ∧
    Stp Hf H (O (wWipe w vs)) Hf' H' (fun x => O w' x ∨ x = D) ∧ lcLoop p vs c m (ds.drop i) acc ε' = .ok accF εF) ?_ ?_ ?_ ?_
  · exact ⟨Hf, wWipe w vs, wipeE ε vs, [], [], Ew.layNew hD, upd_same, .nil, hfD, fun i a z => E.nw hD i a z.2, Stp.layNew hD, eL⟩
  · rintro i H' _ ⟨Hf', w', ε', acc, av, E', _, _, _, _, st, _⟩
    exact hG H' (st.mono.trans E'.sub)
  · rintro i x H' H'' hi' ⟨Hf', w', ε', acc, av, E', h1, h2, h3, h4, st, el⟩ y
    obtain ⟨d, hd, hcs⟩ := hY Hf' H' i x H'' hi' st.mono E'.sub y
    have ed : ds.drop i = d :: ds.drop (i + 1) := by
      obtain ⟨h1, h2⟩ := List.getElem?_eq_some_iff.mp hd
      rw [List.drop_eq_getElem_cons h1, h2]
    rw [ed] at el
    unfold lcLoop at el
    obtain ⟨Hf2, st2, E2, dq, hD2, hfD2⟩ : ∃ Hf2, Stp Hf' H' (fun x => O w' x ∨ x = D) Hf2 H'' (fun x => O w' x ∨ x = D) ∧ EnR C' Hf2 H'' w' (wipe σ vs) ε' ∧ Dq C.K Hf2 x d ∧ H'' D = some (.lst av) ∧ Hf2 D = none := by
      rcases hcs with ⟨rfl, dq⟩ | ⟨p0, o, hp, rfl, dq⟩
      · exact ⟨Hf', Stp.refl, E', dq, h1, h3⟩
      · have ne : D ≠ p0 := fun z => by rw [← z, h1] at hp; cases hp
        exact ⟨_, Stp.lay E'.sub hp, E'.lay hp, dq, by rw [upd_ne ne]; exact h1, by rw [upd_ne ne]; exact h3⟩
    cases e : bindP p d ε' with
    | none => rw [e] at el; cases el
    | some ε1 =>
    rw [e] at el
    dsimp only at el
    refine hg Hf2 H'' w' (wipe σ vs) ε' x d ε1 _ E2 (by rw [hK]; exact dq) e fun σ3 w3 E3 st3 on3 => ?_
    have ow : wipe σ3 vs = wipe σ vs := by rw [only_wipe on3, only_wipe wipe_only]
    refine ⟨ow, ?_⟩
    -- D is nobody's
    have nw3 : ∀ i a, w3 i a → a ≠ D := fun i a hw z => by
      have := (st3.rest D (by rw [hD2]; simp) (fun ⟨j, q⟩ => h4 j D q rfl)).2.2
      exact this ⟨i, by rw [← z]; exact hw⟩
    have stA : Stp Hf H (O (wWipe w vs)) Hf2 H'' (fun x => O w3 x ∨ x = D) := by
      refine st.trans (st2.trans ⟨st3.mono, fun a ha na => ?_⟩)
      have nb : ¬ O w' a := fun z => na (.inl z)
      obtain ⟨q1, q2, q3⟩ := st3.rest a ha nb
      exact ⟨q1, q2, fun z => z.elim q3 fun z => na (.inr z)⟩
    refine hc Hf2 H'' w3 σ3 ε1 _ E3 ?_
    -- how a step of something within goes on
    have within : ∀ {Hf4 H4 : Hp} {w4 : Own} {S4 : Addr → Prop}, EnR C' Hf4 H4 w4 σ3 ε1 ∨ True → Stp Hf2 H'' (O w3) Hf4 H4 (fun x => O w4 x ∨ S4 x) → H4 D = some (.lst av) ∧ Hf4 D = none ∧ (∀ i a, w4 i a → a ≠ D) ∧ Stp Hf H (O (wWipe w vs)) Hf4 H4 (fun x => O w4 x ∨ x = D) := by
      intro Hf4 H4 w4 S4 _ s4
      obtain ⟨q1, q2, q3⟩ := s4.rest D (by rw [hD2]; simp) (fun ⟨j, q⟩ => nw3 j D q rfl)
      refine ⟨q1.trans hD2, q2.trans hfD2, fun i a hw z => q3 (.inl ⟨i, by rw [← z]; exact hw⟩), stA.trans ⟨s4.mono, fun a ha na => ?_⟩⟩
      obtain ⟨r1, r2, r3⟩ := s4.rest a ha (fun z => na (.inl z))
      exact ⟨r1, r2, fun z => z.elim (fun z => r3 (.inl z)) fun z => na (.inr z)⟩
    cases ec : c ε1 with
    | bad => rw [ec] at el; cases el
    | err x4 ε4 => rw [ec] at el; cases el
    | ok b ε2 =>
    rw [ec] at el
    intro Hf4 H4 w4 S4 b4 E4 s4 r4
    obtain ⟨_, rfl⟩ := r4
    obtain ⟨k1, k2, k3, k4⟩ := within (.inr trivial) s4
    cases b4 with
    | false =>
      dsimp only at el
      rw [if_neg (by simp)]
      have E5 := E4.wiped (vs := vs) (by rw [ho]; exact hv)
      rw [ow] at E5
      exact ⟨Hf4, wWipe w4 vs, wipeE ε2 vs, acc, av, E5, k1, DqAll.mono (st2.mono.trans s4.mono) h2, k2, fun i a z => k3 i a z.2, k4.out fun x z => z.elim (fun ⟨j, q⟩ => .inl ⟨j, q.2⟩) .inr, el⟩
    | true =>
      dsimp only at el
      rw [if_pos rfl]
      refine he Hf4 H4 w4 σ3 ε2 _ E4 ?_
      cases em : m ε2 with
      | bad => rw [em] at el; cases el
      | err x5 ε5 => rw [em] at el; cases el
      | ok y5 ε3 =>
      rw [em] at el
      dsimp only at el
      intro Hf5 H5 w5 S5 b5 E5 s5 r5
      split at el
      · rename_i hlen
        obtain ⟨q1, q2, q3⟩ := s5.rest D (by rw [k1]; simp) (fun ⟨j, q⟩ => k3 j D q rfl)
        have hav : DqAll C'.K Hf5 av acc := DqAll.mono (st2.mono.trans (s4.mono.trans s5.mono)) h2
        refine ⟨av, q1.trans k1, by rw [hav.length]; exact hlen, ?_⟩
        have E6 := E5.wiped (vs := vs) (by rw [ho]; exact hv)
        rw [ow] at E6
        have nw5 : ∀ i a, w5 i a → a ≠ D := fun i a hw z => q3 (.inl ⟨i, by rw [← z]; exact hw⟩)
        refine ⟨Hf5, wWipe w5 vs, wipeE ε3 vs, acc ++ [y5], av ++ [b5], E6.aside (q2.trans k2) (fun i a z => nw5 i a z.2), upd_same, hav.append (.cons r5.2 .nil), q2.trans k2, fun i a z => nw5 i a z.2, ?_, el⟩
        refine k4.trans ⟨s5.mono, fun a ha na => ?_⟩
        obtain ⟨r1, r2, r3⟩ := s5.rest a ha (fun z => na (.inl z))
        have aD : a ≠ D := fun z => na (.inr z)
        exact ⟨by rw [upd_ne aD]; exact r1, r2, fun z => z.elim (fun ⟨j, q⟩ => r3 (.inl ⟨j, q.2⟩)) fun z => na (.inr z)⟩
      · cases el
  · rintro H' ⟨Hf', w', ε', acc, av, E', h1, h2, h3, h4, st, el⟩
    rw [List.drop_length] at el
    unfold lcLoop at el
    cases el
    have E'' : EnR C Hf' H' w' (wipe σ vs) εF := E'.recast hK.symm ho.symm hvs.symm
    have hoo : ∀ i a, vs.contains i = true → w i a → ¬ O (wWipe w vs) a := fun i a hcv hw => fun ⟨j, q⟩ => by
      have := E.sep i j a hw q.2
      have q1 := q.1
      rw [← this, hcv] at q1
      cases q1
    have E7 := E.restored E'' st hoo (fun a z => .inl z)
    refine P Hf' H' _ (fun x => x = D) (.ref D) E7 ?_ ⟨D, rfl, ⟨fun _ => Iff.rfl, av, h1, by rw [← hK]; exact h2⟩, fun a z => by rw [z]; exact h3, fun i a hw z => ?_⟩
    · refine ⟨st.mono, fun a ha na => ?_⟩
      obtain ⟨r1, r2, r3⟩ := st.rest a ha (fun ⟨j, q⟩ => na ⟨j, q.2⟩)
      refine ⟨r1, r2, fun z => z.elim (fun ⟨j, q⟩ => ?_) fun z => r3 (.inr z)⟩
      rcases q with ⟨_, q⟩ | ⟨_, q⟩
      · exact na ⟨j, q⟩
      · exact r3 (.inl ⟨j, q⟩)
    · rcases hw with ⟨_, q⟩ | ⟨_, q⟩
      · exact E.nw hD i a q z
      · exact h4 i a q z
end M3

namespace M3
open PySem PySem.Spec L2
open PyProof.Rows hiding St

/-! ### tests -/
def truthD : D → Option Bool
  | .none => some false
  | .bool b => some b
  | .int i => some (i != 0)
  | .str x => if x.length ≤ sizeLine then some ((x.length : Int) != 0) else none
  | .list ds => some (!ds.isEmpty)
  | .tuple ds => some (!ds.isEmpty)
  | .dict _ => none
theorem DqAll.isEmpty {K : PySem.W.Frag} {H : Hp} {vs : List V} {ds : List D} (h : DqAll K H vs ds) : vs.isEmpty = ds.isEmpty := by
  cases h <;> rfl
theorem truV {C : Ct} {Hf H : Hp} {v : V} {d : D} {k : Bool} (s : Same Hf H) (h : Vw C Hf H v d) (e : truthD d = some k) : TruV C.K v H k := by
  cases d with
  | list ds =>
    obtain ⟨p, vs, rfl, h1, h2⟩ := h
    cases e
    exact .inl ⟨vs, SqL.of h1, by rw [h2.isEmpty]⟩
  | tuple ds =>
    cases h with
    | tup h1 h2 =>
      cases e
      exact .inr (.inl ⟨_, Same.tup s h1, by rw [h2.isEmpty]⟩)
  | none => cases h; cases e; exact rfl
  | bool b => cases h; cases e; exact rfl
  | int i => cases h; cases e; exact rfl
  | str x =>
    cases h
    have e' : (if x.length ≤ sizeLine then some ((x.length : Int) != 0) else none) = some k := e
    by_cases hx : x.length ≤ sizeLine
    · rw [if_pos hx] at e'
      cases e'
      exact ⟨hx, rfl⟩
    · rw [if_neg hx] at e'
      cases e'
  | dict k => cases h
def tTru (K : PySem.W.Frag) (te : TE) : TT := fun σ H Q => te σ H fun x H' => ∃ k, TruV K x H' k ∧ Q k H'
def mTru (m : M RV) : M Bool := fun ε => (m ε).bind fun r ε1 => match (view ε1 r).bind truthD with
  | some k => .ok k ε1
  | none => .bad
def mBl (m : M RV) : M Bool := fun ε => (m ε).bind fun r ε1 => match r with
  | .fro (.bool b) => .ok b ε1
  | _ => .bad
def mAnd (a b : M Bool) : M Bool := fun ε => (a ε).bind fun k ε1 => if k = true then b ε1 else .ok false ε1
def mOr (a b : M Bool) : M Bool := fun ε => (a ε).bind fun k ε1 => if k = true then .ok true ε1 else b ε1
def mNot (a : M Bool) : M Bool := fun ε => (a ε).bind fun k ε1 => .ok (!k) ε1
def mIfE (c : M Bool) (a b : M RV) : M RV := fun ε => (c ε).bind fun k ε1 => if k = true then a ε1 else b ε1
theorem opR.rv {C : Ct} {Hf H : Hp} {w : Own} {σ : L2.St} {v : V} {r : RV} (h : opR C Hf σ v r) : relRV C Hf H w σ (fun _ => False) v r := by
  cases r with
  | fro d => exact ⟨fun _ z => z, h⟩
  | new o => exact h.elim
  | at_ i => exact ⟨fun _ z => z, h⟩
  | raw u => exact ⟨fun _ z => z, h⟩
section
variable {C : Ct} {te ta tb tc : TE} {m m1 m2 m3 : M RV} {t u : TT} {c1 c2 : M Bool}
theorem snd_tru (h : Snd C relO te m) : Snd C relB (tTru C.K te) (mTru m) := by
  refine Snd.bind (Rel1 := relO) (t1 := te) (t2 := fun x σ H' Q => ∃ k, TruV C.K x H' k ∧ Q k H') h fun Hf H w σ ε S b a Q E rb P => ?_
  split at P
  · rename_i k e
    obtain ⟨d, e1, e2⟩ := Option.bind_eq_some_iff.mp e
    exact ⟨k, truV E.sub (rb.2.view E e1) e2, P.here E ⟨fun _ z => z, rfl⟩⟩
  · exact P.elim
theorem snd_bool (h : Snd C relRV te m) : Snd C relB (tTest te) (mBl m) := by
  intro Hf H w σ ε Q E P
  refine h Hf H w σ ε _ E ?_
  have P' : PostX C relB Hf H w σ Q ((m ε).bind fun r ε1 => match r with
    | .fro (.bool b) => .ok b ε1
    | _ => .bad) := P
  cases e : m ε with
  | err x ε1 => rw [e] at P'; exact P'
  | bad => rw [e] at P'; exact P'
  | ok r ε1 =>
    rw [e] at P'
    simp only [R.bind] at P'
    intro Hf1 H1 w1 S b E1 st rb
    split at P'
    · rename_i k
      obtain ⟨n, q⟩ := rb
      cases q
      exact ⟨_, rfl, P' Hf1 H1 w1 (fun _ => False) _ E1 (st.out fun x z => z.elim .inl False.elim) ⟨fun _ z => z, rfl⟩⟩
    · exact P'.elim
theorem snd_and (h1 : Snd C relB t c1) (h2 : Snd C relB u c2) : Snd C relB (tAnd t u) (mAnd c1 c2) := by
  refine Snd.bind (Rel1 := relB) (t1 := t) (t2 := fun c σ H1 Q => if c = true then u σ H1 Q else Q false H1) h1 fun Hf H w σ ε S b a Q E rb P => ?_
  obtain ⟨_, rfl⟩ := rb
  cases b with
  | true => exact h2 Hf H w σ ε Q E P
  | false => exact P.here E ⟨fun _ z => z, rfl⟩
theorem snd_or (h1 : Snd C relB t c1) (h2 : Snd C relB u c2) : Snd C relB (tOr t u) (mOr c1 c2) := by
  refine Snd.bind (Rel1 := relB) (t1 := t) (t2 := fun c σ H1 Q => if c = true then Q true H1 else u σ H1 Q) h1 fun Hf H w σ ε S b a Q E rb P => ?_
  obtain ⟨_, rfl⟩ := rb
  cases b with
  | false => exact h2 Hf H w σ ε Q E P
  | true => exact P.here E ⟨fun _ z => z, rfl⟩
theorem snd_not (h1 : Snd C relB t c1) : Snd C relB (tNot t) (mNot c1) := by
  refine Snd.bind (Rel1 := relB) (t1 := t) (t2 := fun c σ H1 Q => Q (!c) H1) h1 fun Hf H w σ ε S b a Q E rb P => ?_
  obtain ⟨_, rfl⟩ := rb
  exact P.here E ⟨fun _ z => z, rfl⟩
theorem snd_ifE (hc : Snd C relB t c1) (h1 : Snd C relRV ta m1) (h2 : Snd C relRV tb m2) : Snd C relRV (tIf t ta tb) (mIfE c1 m1 m2) := by
  refine Snd.bind (Rel1 := relB) (t1 := t) (t2 := fun c σ H1 Q => if c = true then ta σ H1 Q else tb σ H1 Q) hc fun Hf H w σ ε S b a Q E rb P => ?_
  obtain ⟨_, rfl⟩ := rb
  cases b with
  | true => exact h1 Hf H w σ ε Q E P
  | false => exact h2 Hf H w σ ε Q E P
/-! and, or, not as values -/
def mOrV (a b : M RV) : M RV := fun ε => (a ε).bind fun r ε1 => match (view ε1 r).bind truthD with
  | some k => if k = true then .ok r ε1 else b ε1
  | none => .bad
def mAndV (a b : M RV) : M RV := fun ε => (a ε).bind fun r ε1 => match (view ε1 r).bind truthD with
  | some k => if k = true then b ε1 else .ok r ε1
  | none => .bad
def mNotV (a : M RV) : M RV := fun ε => (a ε).bind fun r ε1 => match (view ε1 r).bind truthD with
  | some k => .ok (.fro (.bool (!k))) ε1
  | none => .bad
theorem snd_andV (h1 : Snd C relO ta m1) (h2 : Snd C relRV tb m2) : Snd C relRV (tAndT C.K ta tb) (mAndV m1 m2) := by
  refine Snd.bind (Rel1 := relO) (t1 := ta) (t2 := fun x σ H1 Q => ∃ k, TruV C.K x H1 k ∧ if k = true then tb σ H1 Q else Q x H1) h1 fun Hf H w σ ε S b a Q E rb P => ?_
  split at P
  · rename_i k e
    obtain ⟨d, e1, e2⟩ := Option.bind_eq_some_iff.mp e
    refine ⟨k, truV E.sub (rb.2.view E e1) e2, ?_⟩
    cases k with
    | false => exact P.here E rb.2.rv
    | true => exact h2 Hf H w σ ε Q E P
  · exact P.elim
theorem snd_notV (h1 : Snd C relO ta m1) : Snd C relRV (tNotT C.K ta) (mNotV m1) := by
  refine Snd.bind (Rel1 := relO) (t1 := ta) (t2 := fun x σ H1 (Q : VK) => ∃ k, TruV C.K x H1 k ∧ Q (.bl (!k)) H1) h1 fun Hf H w σ ε S b a Q E rb P => ?_
  split at P
  · rename_i k e
    obtain ⟨d, e1, e2⟩ := Option.bind_eq_some_iff.mp e
    exact ⟨k, truV E.sub (rb.2.view E e1) e2, P.here E ⟨fun _ z => z, .bl _⟩⟩
  · exact P.elim

/-! ### chains: a op b op c -/
def bo (g : D → D → Option Bool) : D → D → Option Out := fun d e => (g d e).map fun b => .val (.bool b)
def mChain (g g' : D → D → Option Bool) (m1 m2 m3 : M RV) : M RV := fun ε => (m1 ε).bind fun a ε1 => (m2 ε1).bind fun b ε2 => match view ε2 a, view ε2 b with
  | some d, some e => (match g d e with
    | some k => if k = true then (m3 ε2).bind fun c ε3 => (match view ε3 b, view ε3 c with
        | some e, some f => outR (bo g' e f) ε3
        | _, _ => .bad) else .ok (.fro (.bool false)) ε2
    | none => .bad)
  | _, _ => .bad
end

/-! ### displays -/
def relDs : Rl (List D) (List V) := fun C Hf H w σ S vs ds => (∀ a, ¬ S a) ∧ DqAll C.K Hf vs ds
def dsNil : M (List D) := fun ε => .ok [] ε
def dsCons (m : M D) (ms : M (List D)) : M (List D) := fun ε => (m ε).bind fun d ε1 => (ms ε1).bind fun ds ε2 => .ok (d :: ds) ε2
def mLst (ms : M (List D)) : M RV := fun ε => (ms ε).bind fun ds ε1 => if ds.length ≤ sizeLine then outR (some (.newl ds)) ε1 else .bad
def mTup (ms : M (List D)) : M RV := fun ε => (ms ε).bind fun ds ε1 => if ds.length ≤ sizeLine then outR (some (.newt ds)) ε1 else .bad
section
variable {C : Ct} {ta : TE} {m : M D} {tr : TA} {ms : M (List D)}
theorem snd_dnil : Snd C relDs tNil dsNil := fun _ _ _ _ _ _ E P => P.here E ⟨fun _ z => z, .nil⟩
theorem snd_dcons (h1 : Snd C relD ta m) (h2 : Snd C relDs tr ms) : Snd C relDs (tCons ta tr) (dsCons m ms) := by
  intro Hf H w σ ε Q E P
  refine h1 Hf H w σ ε _ E ?_
  unfold dsCons at P
  cases e : m ε with
  | err x ε1 => rw [e] at P; exact P
  | bad => rw [e] at P; exact P
  | ok r ε1 =>
    rw [e] at P
    intro Hf1 H1 w1 S b E1 st rb
    refine h2 Hf1 H1 w1 σ ε1 _ E1 ?_
    have P1 := P.step st.noS
    simp only [R.bind] at P1
    cases e2 : ms ε1 with
    | err x ε2 => rw [e2] at P1; exact P1
    | bad => rw [e2] at P1; exact P1
    | ok rs ε2 =>
      rw [e2] at P1
      intro Hf2 H2 w2 S2 bs E2 st2 rbs
      exact P1 Hf2 H2 w2 S2 (b :: bs) E2 st2 ⟨rbs.1, .cons (rb.2.mono st2.mono) rbs.2⟩
theorem snd_lst (h : Snd C relDs tr ms) : Snd C relRV (tLst tr) (mLst ms) := by
  refine Snd.bind (Rel1 := relDs) (t1 := tr) (t2 := fun xs σ H1 (Q : VK) => xs.length ≤ sizeLine ∧ ∀ p, H1 p = none → Q (.ref p) (upd H1 p (.lst xs))) h fun Hf H w σ ε S b a Q E rb P => ?_
  split at P
  · rename_i hz
    exact ⟨by rw [rb.2.length]; exact hz, fun p hp => OutP.of E P p b hp rb.2⟩
  · exact P.elim
theorem snd_tup (h : Snd C relDs tr ms) : Snd C relRV (tTup tr) (mTup ms) := by
  refine Snd.bind (Rel1 := relDs) (t1 := tr) (t2 := fun xs σ H1 (Q : VK) => xs.length ≤ sizeLine ∧ ∀ p, H1 p = none → Q (.ref p) (upd H1 p (.tup xs))) h fun Hf H w σ ε S b a Q E rb P => ?_
  split at P
  · rename_i hz
    exact ⟨by rw [rb.2.length]; exact hz, fun p hp => OutP.of E P p b hp rb.2⟩
  · exact P.elim
end

/-! ### slices -/
def relPI : Rl (Option Int) (Option Int) := fun C Hf H w σ S b a => (∀ x, ¬ S x) ∧ b = a
def mNoPart : M (Option Int) := fun ε => .ok none ε
def mPart (m : M RV) : M (Option Int) := fun ε => (m ε).bind fun r ε1 => match view ε1 r with
  | some (.int i) => .ok (some i) ε1
  | _ => .bad
def SlS (C : Ct) (r : V → Option Int → Option Int → Hp → VK → Prop) (g : D → Option Int → Option Int → Option Out) : Prop :=
  ∀ Hf H x d lo hi Q, Same Hf H → Vw C Hf H x d → OutP C Hf H Q (g d lo hi) → r x lo hi H Q
def mSl (g : D → Option Int → Option Int → Option Out) (m : M RV) (lo hi : M (Option Int)) : M RV := fun ε => (m ε).bind fun a ε1 => (lo ε1).bind fun l ε2 => (hi ε2).bind fun h ε3 => match view ε3 a with
  | some d => outR (g d l h) ε3
  | none => .bad
section
variable {C : Ct} {te : TE} {m : M RV} {tl th : TO} {lo hi : M (Option Int)}
theorem snd_noPart : Snd C relPI tNoPart mNoPart := fun _ _ _ _ _ _ E P => P.here E ⟨fun _ z => z, rfl⟩
theorem snd_part (h : Snd C relO te m) : Snd C relPI (tPart te) (mPart m) := by
  refine Snd.bind (Rel1 := relO) (t1 := te) (t2 := fun x σ H1 (Q : Option Int → Hp → Prop) => ∃ i, x = V.int i ∧ Q (some i) H1) h fun Hf H w σ ε S b a Q E rb P => ?_
  split at P
  · rename_i i e
    have q := rb.2.view E e
    cases q
    exact ⟨i, rfl, P.here E ⟨fun _ z => z, rfl⟩⟩
  · exact P.elim
theorem snd_sl {r : V → Option Int → Option Int → Hp → VK → Prop} {g : D → Option Int → Option Int → Option Out} (hr : SlS C r g) (h : Snd C relO te m) (hl : Snd C relPI tl lo) (hh : Snd C relPI th hi) : Snd C relRV (tSl r te tl th) (mSl g m lo hi) := by
  intro Hf H w σ ε Q E P
  refine h Hf H w σ ε _ E ?_
  unfold mSl at P
  cases e : m ε with
  | err x ε1 => rw [e] at P; exact P
  | bad => rw [e] at P; exact P
  | ok r1 ε1 =>
    rw [e] at P
    intro Hf1 H1 w1 S b E1 st rb
    refine hl Hf1 H1 w1 σ ε1 _ E1 ?_
    have P1 := P.step st.noS
    simp only [R.bind] at P1
    cases e2 : lo ε1 with
    | err x ε2 => rw [e2] at P1; exact P1
    | bad => rw [e2] at P1; exact P1
    | ok r2 ε2 =>
      rw [e2] at P1
      simp only [R.bind] at P1
      intro Hf2 H2 w2 S2 b2 E2 st2 rb2
      obtain ⟨_, rfl⟩ := rb2
      refine hh Hf2 H2 w2 σ ε2 _ E2 ?_
      have P2 := P1.step st2.noS
      cases e3 : hi ε2 with
      | err x ε3 => rw [e3] at P2; exact P2
      | bad => rw [e3] at P2; exact P2
      | ok r3 ε3 =>
        rw [e3] at P2
        intro Hf3 H3 w3 S3 b3 E3 st3 rb3
        obtain ⟨_, rfl⟩ := rb3
        have P3 := P2.step st3.noS
        simp only at P3
        split at P3
        · rename_i d v1
          exact hr Hf3 H3 b d b2 b3 Q E3.sub ((rb.2.mono (st2.mono.trans st3.mono)).view E3 v1) (OutP.of E3 P3)
        · exact P3.elim
end

/-! ### methods of texts -/
def MtS (C : Ct) (r : V → List V → Hp → VK → Prop) (g : D → List D → Option Out) : Prop :=
  ∀ Hf H x xs d ds Q, Same Hf H → Vw C Hf H x d → VwAll C Hf H xs ds → OutP C Hf H Q (g d ds) → r x xs H Q
def mBM (g : D → List D → Option Out) (m : M RV) (ms : M (List RV)) : M RV := fun ε => (m ε).bind fun a ε1 => match a with
  | .fro (.str x) => (ms ε1).bind fun rs ε2 => (match viewAll ε2 rs with
    | some ds => outR (g (.str x) ds) ε2
    | none => .bad)
  | _ => .bad
section
variable {C : Ct} {to : TE} {m : M RV} {tr : TA} {ms : M (List RV)}
theorem snd_bm {r : V → List V → Hp → VK → Prop} {g : D → List D → Option Out} (hr : MtS C r g) (h : Snd C relO to m) (hs : Snd C relOs tr ms) : Snd C relRV (tBM C.K "str" r to tr) (mBM g m ms) := by
  intro Hf H w σ ε Q E P
  refine h Hf H w σ ε _ E ?_
  unfold mBM at P
  cases e : m ε with
  | err x ε1 => rw [e] at P; exact P
  | bad => rw [e] at P; exact P
  | ok r1 ε1 =>
    rw [e] at P
    intro Hf1 H1 w1 S b E1 st rb
    have P1 := P.step st.noS
    simp only [R.bind] at P1
    split at P1
    · rename_i x
      obtain ⟨_, q⟩ := rb
      cases q
      refine ⟨rfl, hs Hf1 H1 w1 σ ε1 _ E1 ?_⟩
      cases e2 : ms ε1 with
      | err x ε2 => rw [e2] at P1; exact P1
      | bad => rw [e2] at P1; exact P1
      | ok rs ε2 =>
        rw [e2] at P1
        intro Hf2 H2 w2 S2 b2 E2 st2 rb2
        have P2 := P1.step st2.noS
        simp only at P2
        split at P2
        · rename_i ds v1
          exact hr Hf2 H2 _ b2 (.str x) ds Q E2.sub (.str x) (rb2.2.view E2 v1) (OutP.of E2 P2)
        · exact P2.elim
    · exact P1.elim
end

/-! ### an owned list changed -/
theorem EnR.setOwn {C : Ct} {Hf H : Hp} {w : Own} {σ : L2.St} {ε : En} (E : EnR C Hf H w σ ε) {i : Nat} {ds : List D} (e : ε[i]? = some (some (.own (.lst ds)))) {p : Addr} (hp : σ[i]? = some (some (.ref p))) {us : List V} {es : List D} (h : DqAll C.K Hf us es) :
    ∃ w', EnR C Hf (upd H p (.lst us)) w' σ (ε.set i (some (.own (.lst es)))) ∧ Stp Hf H (O w) Hf (upd H p (.lst us)) (O w') := by
  obtain ⟨p', vs, h1, h2, h3, h4, h5⟩ := E.ownLst e
  rw [hp] at h1
  cases h1
  have nf : ∀ b o, Hf b = some o → b ≠ p := fun b o q z => by rw [z, h4] at q; cases q
  refine ⟨wSet w i (fun a => a = p), ?_, ⟨Same.refl _, fun a ha na => ⟨?_, rfl, ?_⟩⟩⟩
  · have q := E.put (Hf' := Hf) (H' := upd H p (.lst us)) (S := fun a => a = p) (lt_of_get hp) (Same.refl _) (fun b o q => by rw [upd_ne (nf b o q)]; exact E.sub b o q)
      (fun j a hj hw => upd_ne fun z => hj (E.sep j i a hw ((h5 a).mpr z))) (some (.ref p)) (some (.own (.lst es))) ⟨p, rfl, fun _ => Iff.rfl, us, upd_same, h⟩
      (fun j a hj hw z => hj (E.sep j i a hw ((h5 a).mpr z))) (fun j a _ hw => E.fre j a hw) (fun a z => by rw [z]; exact h4)
      (fun hc v hv => by
        have := E.fix i v hc hv
        rw [hp] at this
        exact Option.some.inj this)
    rw [set_same hp] at q
    exact q
  · exact upd_ne fun z => na ⟨i, (h5 a).mpr z⟩
  · rintro ⟨j, ⟨e1, z⟩ | ⟨n, z⟩⟩
    · exact na ⟨i, (h5 a).mpr z⟩
    · exact na ⟨j, z⟩
/-- xs.append(e) -/
def sAppend (i : Nat) (m : M D) : Sm := fun ε => match ε[i]? with
  | some (some (.own (.lst _))) => (m ε).toS fun d ε1 => (match ε1[i]? with
    | some (some (.own (.lst ds))) => if ds.length < sizeLine then .nx (ε1.set i (some (.own (.lst (ds ++ [d]))))) else .bad
    | _ => .bad)
  | _ => .bad
theorem snds_append {C : Ct} {ta : TE} {m : M D} {i : Nat} (h : Snd C relD ta m) : SndS C (tDrop (tBM C.K "list" rAppend (tVar i) (tCons ta tNil))) (sAppend i m) := by
  intro Hf H w σ ε D E P
  unfold sAppend at P
  split at P
  · rename_i ds0 e0
    obtain ⟨p, vs0, p1, p2, _⟩ := E.ownLst e0
    refine ⟨_, p1, .inl ⟨rfl, vs0, SqL.of p2⟩, ?_⟩
    refine h.toS E P fun d ε1 Hf1 H1 w1 S b _ E1 st rb P1 => ?_
    split at P1
    · rename_i ds e1
      split at P1
      · rename_i hz
        obtain ⟨p', vs, q1, q2, q3, _⟩ := E1.ownLst e1
        rw [p1] at q1
        cases q1
        obtain ⟨w2, E2, st2⟩ := E1.setOwn e1 p1 (q3.append (.cons rb.2 .nil))
        exact ⟨p, vs, b, rfl, rfl, q2, by rw [q3.length]; exact hz, P1 Hf1 _ w2 σ E2 (st.noS.trans st2)⟩
      · exact P1.elim
    · exact P1.elim
  · exact P.elim
/-- xs[k] = e -/
def sSetItem (i : Nat) (mk : M RV) (m : M D) : Sm := fun ε => (m ε).toS fun d ε1 => match ε1[i]? with
  | some (some (.own (.lst _))) => (mk ε1).toS fun r ε2 => (match ε2[i]?, view ε2 r with
    | some (some (.own (.lst ds))), some (.int k) => (match ixN ds.length k with
      | some j => .nx (ε2.set i (some (.own (.lst (ds.set j d)))))
      | none => .bad)
    | _, _ => .bad)
  | _ => .bad
theorem snds_setItem {C : Ct} {te tk : TE} {m : M D} {mk : M RV} {i : Nat} (h : Snd C relD te m) (hk : Snd C relO tk mk) : SndS C (tAsg te (gSub (tVar i) tk rSetL)) (sSetItem i mk m) := by
  intro Hf H w σ ε D E P
  refine h.toS E P fun d ε1 Hf1 H1 w1 S b _ E1 st rb P1 => ?_
  split at P1
  · rename_i ds0 e0
    obtain ⟨p, vs0, p1, p2, _⟩ := E1.ownLst e0
    refine ⟨_, p1, ?_⟩
    refine hk.toS E1 (P1.step st.noS) fun r ε2 Hf2 H2 w2 S2 b2 _ E2 st2 rb2 P2 => ?_
    split at P2
    · rename_i ds k e1 e2
      split at P2
      · rename_i j ej
        obtain ⟨p', vs, q1, q2, q3, _⟩ := E2.ownLst e1
        rw [p1] at q1
        cases q1
        have qk := rb2.2.view E2 e2
        cases qk
        obtain ⟨w3, E3, st3⟩ := E2.setOwn e1 p1 (DqAll.set (rb.2.mono st2.mono) j q3)
        exact ⟨p, vs, k, j, rfl, rfl, q2, by rw [q3.length]; exact ej, P2 Hf2 _ w3 σ E3 (st2.noS.trans st3)⟩
      · exact P2.elim
    · exact P2.elim
  · exact P1.elim
end M3

namespace M3
open PySem PySem.Spec L2
open PyProof.Rows hiding St

/-! ### calls of defs -/
/-- a def's mirror: from its parameters' slots to a result and the slots behind it -/
def spM (K : PySem.W.Frag) (n : Nat) (F : M RV) : Sp := fun vs H Q E => vs.length = n ∧ ∃ Hf w ε, EnR ⟨K, [], [], noW⟩ Hf H w (vs.map some) ε ∧ PostX ⟨K, [], [], fun c d _ H' => E c d H'⟩ relRV Hf H w (vs.map some) Q (F ε)
def argSV (ε : En) : RV → Option SV
  | .fro d => some (.fro d)
  | .raw v => some (.raw v)
  | .at_ i => match ε[i]? with
    | some (some s) => some s
    | _ => none
  | .new _ => none
def argsE (ε : En) : List RV → Option En
  | [] => some []
  | r :: rs => match argSV ε r, argsE ε rs with
    | some s, some εc => some (some s :: εc)
    | _, _ => none
def ats : List RV → List Nat
  | [] => []
  | .at_ i :: rs => i :: ats rs
  | .fro _ :: rs => ats rs
  | .raw _ :: rs => ats rs
  | .new _ :: rs => ats rs
def wb : List RV → En → En → En
  | .at_ i :: rs, e :: εc, ε => (wb rs εc ε).set i e
  | .fro _ :: rs, _ :: εc, ε => wb rs εc ε
  | .raw _ :: rs, _ :: εc, ε => wb rs εc ε
  | .new _ :: rs, _ :: εc, ε => wb rs εc ε
  | _, _, ε => ε
def mCall (n : Nat) (F : M RV) (ms : M (List RV)) : M RV := fun ε => (ms ε).bind fun rs ε1 =>
  if rs.length = n ∧ (ats rs).Nodup then
    match argsE ε1 rs with
    | some εc => (match F εc with
      | .ok (.at_ _) _ => .bad
      | .ok (.fro d) εo => if εo.length = n then .ok (.fro d) (wb rs εo ε1) else .bad
      | .ok (.new o) εo => if εo.length = n then .ok (.new o) (wb rs εo ε1) else .bad
      | .ok (.raw v) εo => if εo.length = n then .ok (.raw v) (wb rs εo ε1) else .bad
      | .err x εo => if εo.length = n then .err x (wb rs εo ε1) else .bad
      | .bad => .bad)
    | none => .bad
  else .bad
theorem opRs.length {C : Ct} {Hf : Hp} {σ : L2.St} : ∀ {vs : List V} {rs : List RV}, opRs C Hf σ vs rs → vs.length = rs.length
  | _, _, .nil => rfl
  | _, _, .cons _ b => congrArg Nat.succ (opRs.length b)
theorem opRs.get {C : Ct} {Hf : Hp} {σ : L2.St} : ∀ {vs : List V} {rs : List RV} {j : Nat} {r : RV}, opRs C Hf σ vs rs → rs[j]? = some r → ∃ v, vs[j]? = some v ∧ opR C Hf σ v r
  | _, _, _, _, .nil, e => by simp at e
  | _, _, 0, _, .cons a _, e => by simp at e; subst e; exact ⟨_, rfl, a⟩
  | _, _, j + 1, r, .cons _ b, e => by
    obtain ⟨v, h1, h2⟩ := opRs.get (j := j) (r := r) b (by simpa using e)
    exact ⟨v, by simpa using h1, h2⟩
theorem argsE_len {ε : En} : ∀ {rs : List RV} {εc : En}, argsE ε rs = some εc → εc.length = rs.length
  | [], _, e => by cases e; rfl
  | r :: rs, εc, e => by
    unfold argsE at e
    split at e
    · rename_i s es e1 e2
      cases e
      exact congrArg Nat.succ (argsE_len e2)
    · cases e
theorem argsE_get {ε : En} : ∀ {rs : List RV} {εc : En} {j : Nat} {r : RV}, argsE ε rs = some εc → rs[j]? = some r → ∃ s, argSV ε r = some s ∧ εc[j]? = some (some s)
  | [], _, _, _, _, e => by simp at e
  | r0 :: rs, εc, j, r, e, h => by
    unfold argsE at e
    split at e
    · rename_i s es e1 e2
      cases e
      cases j with
      | zero => simp at h; subst h; exact ⟨s, e1, rfl⟩
      | succ j =>
        obtain ⟨s', h1, h2⟩ := argsE_get e2 (by simpa using h)
        exact ⟨s', h1, by simpa using h2⟩
    · cases e
theorem mem_ats : ∀ {rs : List RV} {j i : Nat}, rs[j]? = some (RV.at_ i) → i ∈ ats rs
  | [], _, _, e => by simp at e
  | r :: rs, 0, i, e => by
    simp at e; subst e; exact List.mem_cons_self
  | r :: rs, j + 1, i, e => by
    have q := mem_ats (rs := rs) (j := j) (i := i) (by simpa using e)
    cases r <;> first | exact q | exact List.mem_cons_of_mem _ q
theorem ats_inj : ∀ {rs : List RV} {j k i : Nat}, (ats rs).Nodup → rs[j]? = some (RV.at_ i) → rs[k]? = some (RV.at_ i) → j = k
  | [], _, _, _, _, e, _ => by simp at e
  | r :: rs, 0, 0, i, _, _, _ => rfl
  | r :: rs, 0, k + 1, i, nd, e, e' => by
    simp at e; subst e
    have q := mem_ats (rs := rs) (j := k) (i := i) (by simpa using e')
    exact absurd q (List.nodup_cons.mp nd).1
  | r :: rs, j + 1, 0, i, nd, e, e' => by
    simp at e'; subst e'
    have q := mem_ats (rs := rs) (j := j) (i := i) (by simpa using e)
    exact absurd q (List.nodup_cons.mp nd).1
  | r :: rs, j + 1, k + 1, i, nd, e, e' => by
    have nd' : (ats rs).Nodup := by cases r <;> first | exact nd | exact (List.nodup_cons.mp nd).2
    exact congrArg Nat.succ (ats_inj nd' (by simpa using e) (by simpa using e'))
theorem wb_len : ∀ (rs : List RV) (εc ε : En), (wb rs εc ε).length = ε.length
  | [], _, _ => by cases ‹En› <;> rfl
  | r :: rs, [], ε => by cases r <;> rfl
  | r :: rs, e :: εc, ε => by
    cases r <;> first
      | exact wb_len rs εc ε
      | (show ((wb rs εc ε).set _ e).length = _; rw [List.length_set]; exact wb_len rs εc ε)
theorem wb_not : ∀ {rs : List RV} {εc ε : En} {i : Nat}, (∀ j : Nat, rs[j]? ≠ some (RV.at_ i)) → (wb rs εc ε)[i]? = ε[i]?
  | [], εc, ε, i, _ => by cases εc <;> rfl
  | r :: rs, [], ε, i, _ => by cases r <;> rfl
  | r :: rs, e :: εc, ε, i, h => by
    have ih := wb_not (rs := rs) (εc := εc) (ε := ε) (i := i) fun j => by have := h (j + 1); simpa using this
    cases r <;> first
      | exact ih
      | (rename_i k
         have hk : k ≠ i := fun z => by have := h 0; rw [z] at this; simp at this
         show ((wb rs εc ε).set k e)[i]? = _
         rw [List.getElem?_set_ne hk]
         exact ih)
theorem wb_at : ∀ {rs : List RV} {εc ε : En} {i j : Nat} {e : Option SV}, (ats rs).Nodup → rs[j]? = some (RV.at_ i) → εc[j]? = some e → i < ε.length → (wb rs εc ε)[i]? = some e
  | [], _, _, _, _, _, _, h, _, _ => by simp at h
  | r :: rs, [], _, _, _, _, _, _, h, _ => by simp at h
  | r :: rs, e0 :: εc, ε, i, 0, e, nd, h, h', hi => by
    simp at h h'; subst h; subst h'
    show ((wb rs εc ε).set i e0)[i]? = _
    rw [List.getElem?_set_self (by rw [wb_len]; exact hi)]
  | r :: rs, e0 :: εc, ε, i, j + 1, e, nd, h, h', hi => by
    have nd' : (ats rs).Nodup := by cases r <;> first | exact nd | exact (List.nodup_cons.mp nd).2
    have ih := wb_at (rs := rs) (εc := εc) (ε := ε) (i := i) (j := j) (e := e) nd' (by simpa using h) (by simpa using h') hi
    cases r <;> first
      | exact ih
      | (rename_i k
         have hk : k ≠ i := fun z => by
           have q := mem_ats (rs := rs) (j := j) (i := i) (by simpa using h)
           rw [z] at nd
           exact absurd q (List.nodup_cons.mp nd).1
         show ((wb rs εc ε).set k e0)[i]? = _
         rw [List.getElem?_set_ne hk]
         exact ih)

section
variable {C : Ct} {Hf H Hf' H' : Hp} {w : Own} {σ : L2.St} {ε εc εo : En} {vs : List V} {rs : List RV}
def wCall (rs : List RV) (w : Own) : Own := fun j a => ∃ i, rs[j]? = some (RV.at_ i) ∧ w i a
def wBack (rs : List RV) (wc w : Own) : Own := fun i a => (∃ j : Nat, rs[j]? = some (RV.at_ i) ∧ wc j a) ∨ ((∀ j : Nat, rs[j]? ≠ some (RV.at_ i)) ∧ w i a)
theorem EnR.toCall {W : WX} (E : EnR C Hf H w σ ε) (h : opRs C Hf σ vs rs) (nd : (ats rs).Nodup) (e : argsE ε rs = some εc) : EnR ⟨C.K, [], [], W⟩ Hf H (wCall rs w) (vs.map some) εc where
  sub := E.sub
  slot := fun j => by
    cases er : rs[j]? with
    | none =>
      have h1 : rs.length ≤ j := List.getElem?_eq_none_iff.mp er
      rw [List.getElem?_eq_none (by rw [List.length_map, h.length]; exact h1), List.getElem?_eq_none (by rw [argsE_len e]; exact h1)]
      exact fun a ⟨i, z, _⟩ => by rw [er] at z; cases z
    | some r =>
      obtain ⟨v, hv, ho⟩ := h.get er
      obtain ⟨s, hs, hc⟩ := argsE_get e er
      rw [List.getElem?_map, hv, hc]
      cases r with
      | fro d => cases hs; exact ⟨fun a ⟨i, z, _⟩ => (by rw [er] at z; cases z), v, rfl, ho⟩
      | raw u => cases hs; cases ho; exact ⟨fun a ⟨i, z, _⟩ => (by rw [er] at z; cases z), rfl⟩
      | new o => exact ho.elim
      | at_ i =>
        have hs' : (match ε[i]? with
          | some (some s) => some s
          | _ => none) = some s := hs
        have hσ : σ[i]? = some (some v) := ho
        split at hs'
        · rename_i s' e'
          cases hs'
          have q := E.slot i
          rw [e', hσ] at q
          refine q.congr fun a => ⟨fun ⟨i', z, y⟩ => ?_, fun z => ⟨i, er, z⟩⟩
          rw [er] at z
          cases z
          exact y
        · cases hs'
  sep := fun j k a ⟨i, h1, h2⟩ ⟨i', h3, h4⟩ => by
    have := E.sep i i' a h2 h4
    subst this
    exact ats_inj nd h1 h3
  fre := fun j a ⟨i, _, h2⟩ => E.fre i a h2
  len := by rw [List.length_map, h.length, argsE_len e]
  fix := fun i v h1 _ => by cases h1
theorem EnR.ofCall {W : WX} (E : EnR C Hf H w σ ε) (h : opRs C Hf σ vs rs) (nd : (ats rs).Nodup) (hl : εo.length = rs.length) {wc : Own} {S : Addr → Prop} (Ec : EnR ⟨C.K, [], [], W⟩ Hf' H' wc (vs.map some) εo) (st : Stp Hf H (O (wCall rs w)) Hf' H' (fun x => O wc x ∨ S x)) :
    EnR C Hf' H' (wBack rs wc w) σ (wb rs εo ε) ∧ Stp Hf H (O w) Hf' H' (fun x => O (wBack rs wc w) x ∨ S x) ∧ ((∀ i a, wc i a → ¬ S a) → ∀ i a, wBack rs wc w i a → ¬ S a) := by
  have aside : ∀ i a, (∀ j : Nat, rs[j]? ≠ some (RV.at_ i)) → w i a → H' a = H a ∧ Hf' a = Hf a ∧ ¬ (O wc a ∨ S a) := fun i a hn hw =>
    st.rest a (E.there hw) fun ⟨j, i', h1, h2⟩ => by
      have := E.sep i i' a hw h2
      subst this
      exact hn j h1
  refine ⟨⟨Ec.sub, fun i => ?_, fun i k a h1 h2 => ?_, fun i a h1 => ?_, ?_, E.fix⟩, ⟨st.mono, fun a ha na => ?_⟩, fun hd i a hw z => ?_⟩
  · by_cases hx : ∃ j : Nat, rs[j]? = some (RV.at_ i)
    · obtain ⟨j, hj⟩ := hx
      obtain ⟨v, hv, ho⟩ := h.get hj
      have hσ : σ[i]? = some (some v) := ho
      have hjl : j < εo.length := by rw [hl]; exact lt_of_get hj
      have he : εo[j]? = some εo[j] := List.getElem?_eq_getElem hjl
      rw [wb_at nd hj he (by rw [← E.len]; exact lt_of_get hσ), hσ]
      have q := Ec.slot j
      rw [List.getElem?_map, hv, he] at q
      refine SlotR.congr (S := wc j) (fun a => ⟨fun z => ?_, fun z => .inl ⟨j, hj, z⟩⟩) q
      rcases z with ⟨k, hk, z⟩ | ⟨hn, _⟩
      · rw [ats_inj nd hj hk]; exact z
      · exact absurd hj (hn j)
    · have hn : ∀ j : Nat, rs[j]? ≠ some (RV.at_ i) := fun j z => hx ⟨j, z⟩
      rw [wb_not hn]
      refine SlotR.congr (S := w i) (fun a => ⟨fun z => ?_, fun z => .inr ⟨hn, z⟩⟩) ((E.slot i).keep st.mono fun a hw => (aside i a hn hw).1)
      rcases z with ⟨k, hk, _⟩ | ⟨_, z⟩
      · exact absurd hk (hn k)
      · exact z
  · rcases h1 with ⟨j, e1, h1⟩ | ⟨n1, h1⟩ <;> rcases h2 with ⟨j', e2, h2⟩ | ⟨n2, h2⟩
    · have := Ec.sep j j' a h1 h2
      subst this
      rw [e1] at e2
      cases e2
      rfl
    · exact absurd (.inl ⟨j, h1⟩) (aside k a n2 h2).2.2
    · exact absurd (.inl ⟨j', h2⟩) (aside i a n1 h1).2.2
    · exact E.sep i k a h1 h2
  · rcases h1 with ⟨j, e1, h1⟩ | ⟨n1, h1⟩
    · exact Ec.fre j a h1
    · rw [(aside i a n1 h1).2.1]; exact E.fre i a h1
  · rw [wb_len]; exact E.len
  · obtain ⟨r1, r2, r3⟩ := st.rest a ha fun ⟨j, i, _, h2⟩ => na ⟨i, h2⟩
    refine ⟨r1, r2, fun z => z.elim (fun ⟨i, q⟩ => ?_) fun z => r3 (.inr z)⟩
    rcases q with ⟨j, _, q⟩ | ⟨_, q⟩
    · exact r3 (.inl ⟨j, q⟩)
    · exact na ⟨i, q⟩
  · rcases hw with ⟨j, _, q⟩ | ⟨hn, q⟩
    · exact hd j a q z
    · exact (aside i a hn q).2.2 (.inr z)
theorem snd_call {tr : TA} {ms : M (List RV)} {n : Nat} {F : M RV} {E : L2.St → XK} (hE : ∀ cls d σ H, C.W cls d σ H → E σ cls d H) (h : Snd C relOs tr ms) : Snd C relRV (fun σ H Q => tr σ H fun vs H1 => spM C.K n F vs H1 Q (E σ)) (mCall n F ms) :=
  Snd.bind h fun Hf H w σ ε S vs rs Q En0 rb P => by
    split at P
    · rename_i hn
      obtain ⟨hlen, nd⟩ := hn
      split at P
      · rename_i εc ec
        refine ⟨rb.2.length.trans hlen, Hf, wCall rs w, εc, En0.toCall rb.2 nd ec, ?_⟩
        split at P
        · exact P.elim
        · rename_i d εo eF
          split at P
          · rename_i hl
            rw [eF]
            intro Hf' H' wc S' v Ec st rv
            obtain ⟨E1, st1, _⟩ := En0.ofCall rb.2 nd (hl.trans hlen.symm) Ec st
            exact P Hf' H' _ S' v E1 st1 rv
          · exact P.elim
        · rename_i o εo eF
          split at P
          · rename_i hl
            rw [eF]
            intro Hf' H' wc S' v Ec st rv
            obtain ⟨E1, st1, dj⟩ := En0.ofCall rb.2 nd (hl.trans hlen.symm) Ec st
            obtain ⟨p, r1, r2, r3, r4⟩ := rv
            exact P Hf' H' _ S' v E1 st1 ⟨p, r1, r2, r3, dj r4⟩
          · exact P.elim
        · rename_i u εo eF
          split at P
          · rename_i hl
            rw [eF]
            intro Hf' H' wc S' v Ec st rv
            obtain ⟨E1, st1, _⟩ := En0.ofCall rb.2 nd (hl.trans hlen.symm) Ec st
            exact P Hf' H' _ S' v E1 st1 rv
          · exact P.elim
        · rename_i x εo eF
          split at P
          · rename_i hl
            rw [eF]
            intro Hf' H' wc cls d Ec st rx
            obtain ⟨E1, st1, _⟩ := En0.ofCall (S := fun _ => False) rb.2 nd (hl.trans hlen.symm) Ec (st.out fun _ z => z.elim id False.elim)
            exact hE cls d σ H' (P Hf' H' _ cls d E1 (st1.out fun _ z => .inl z) rx)
          · exact P.elim
        · exact P.elim
      · exact P.elim
    · exact P.elim
end

/-! ### a def from its body -/
def outE (own : List Nat) (ε' : En) : Nat → En → En
  | _, [] => []
  | i, e :: es => (if own.contains i = true then ε'.getD i none else e) :: outE own ε' (i + 1) es
def parOk (own : List Nat) : Nat → En → Bool
  | _, [] => true
  | i, some (.own _) :: es => own.contains i && parOk own (i + 1) es
  | i, some (.fro _) :: es => parOk own (i + 1) es
  | i, some (.raw _) :: es => parOk own (i + 1) es
  | i, some (.scr _) :: es => parOk own (i + 1) es
  | _, none :: _ => false
def fnF (own : List Nat) (N : Nat) (body : Sm) : M RV := fun εc =>
  if parOk own 0 εc = true ∧ εc.length ≤ N then
    match body (εc ++ List.replicate (N - εc.length) none) with
    | .nx ε' => .ok (.fro .none) (outE own ε' 0 εc)
    | .rt (.fro d) ε' => .ok (.fro d) (outE own ε' 0 εc)
    | .rt (.raw v) ε' => .ok (.raw v) (outE own ε' 0 εc)
    | .rt (.new o) ε' => .ok (.new o) (outE own ε' 0 εc)
    | .rt (.at_ i) ε' => if i < εc.length then .bad else (match ε'[i]? with
      | some (some (.own o)) => .ok (.new o) (outE own ε' 0 εc)
      | some (some (.fro d)) => .ok (.fro d) (outE own ε' 0 εc)
      | _ => .bad)
    | .err x ε' => .err x (outE own ε' 0 εc)
    | _ => .bad
  else .bad
theorem outE_len {own : List Nat} {ε' : En} : ∀ (i : Nat) (es : En), (outE own ε' i es).length = es.length
  | _, [] => rfl
  | i, e :: es => congrArg Nat.succ (outE_len (i + 1) es)
theorem outE_get {own : List Nat} {ε' : En} : ∀ (i j : Nat) (es : En), (outE own ε' i es)[j]? = es[j]?.map fun e => if own.contains (i + j) = true then ε'.getD (i + j) none else e
  | _, _, [] => by simp [outE]
  | i, 0, e :: es => by simp [outE]
  | i, j + 1, e :: es => by
    show (outE own ε' (i + 1) es)[j]? = _
    rw [outE_get (i + 1) j es]
    have : i + 1 + j = i + (j + 1) := by omega
    rw [this]
    simp
theorem parOk_get {own : List Nat} : ∀ (i j : Nat) (es : En) (o : OV), parOk own i es = true → es[j]? = some (some (.own o)) → own.contains (i + j) = true
  | _, _, [], _, _, h => by simp at h
  | i, 0, e :: es, o, h, h' => by
    simp at h'
    subst h'
    unfold parOk at h
    simp at h ⊢
    exact h.1
  | i, j + 1, e :: es, o, h, h' => by
    have hp : parOk own (i + 1) es = true := by
      unfold parOk at h
      split at h
      · simp at *
      · rename_i q; cases q; exact (Bool.and_eq_true_iff.mp h).2
      · rename_i q; cases q; exact h
      · rename_i q; cases q; exact h
      · rename_i q; cases q; exact h
      · cases h
    have := parOk_get (i + 1) j es o hp (by simpa using h')
    have e2 : i + 1 + j = i + (j + 1) := by omega
    rw [← e2]; exact this
theorem start_get {N : List Str} {vs : List V} {i : Nat} (h : i < vs.length) : (L2.start N vs)[i]? = vs[i]?.map some := by
  unfold L2.start
  rw [List.getElem?_append_left (by simpa using h), List.getElem?_map]
section
variable {K : PySem.W.Frag} {W : WX} {own : List Nat} {Hf H Hf' H' : Hp} {w w' : Own} {εc ε' : En} {vs : List V} {σ' : L2.St} {N : List Str}
theorem EnR.begin {W' : WX} (E : EnR ⟨K, [], [], W'⟩ Hf H w (vs.map some) εc) (hN : vs.length ≤ N.length) : EnR ⟨K, own, vs, W⟩ Hf H w (L2.start N vs) (εc ++ List.replicate (N.length - εc.length) none) := by
  have hl : vs.length = εc.length := by have := E.len; rw [List.length_map] at this; exact this
  refine ⟨E.sub, fun i => ?_, E.sep, E.fre, ?_, fun i v h1 h2 => ?_⟩
  · by_cases hi : i < vs.length
    · rw [start_get hi, List.getElem?_append_left (by omega)]
      have q := E.slot i
      rw [List.getElem?_map] at q
      exact q
    · have q := E.slot i
      rw [List.getElem?_eq_none (by rw [List.length_map]; omega), List.getElem?_eq_none (by omega)] at q
      rw [List.getElem?_append_right (by omega), List.getElem?_replicate]
      by_cases h2 : i - εc.length < N.length - εc.length
      · rw [if_pos h2]; exact q
      · rw [if_neg h2]; exact q
  · unfold L2.start
    rw [List.length_append, List.length_append, List.length_map, List.length_replicate, List.length_replicate]
    omega
  · have hi : i < vs.length := lt_of_get h2
    rw [start_get hi, h2]; rfl
def wOut (own : List Nat) (n : Nat) (w' : Own) : Own := fun i a => i < n ∧ own.contains i = true ∧ w' i a
theorem EnR.finish {W' : WX} (E : EnR ⟨K, [], [], W'⟩ Hf H w (vs.map some) εc) (hp : parOk own 0 εc = true) (E' : EnR ⟨K, own, vs, W⟩ Hf' H' w' σ' ε') (sm : Same Hf Hf') : EnR ⟨K, [], [], W'⟩ Hf' H' (wOut own vs.length w') (vs.map some) (outE own ε' 0 εc) := by
  have hl : vs.length = εc.length := by have := E.len; rw [List.length_map] at this; exact this
  refine ⟨E'.sub, fun i => ?_, fun i j a h1 h2 => E'.sep i j a h1.2.2 h2.2.2, fun i a h => E'.fre i a h.2.2, by rw [outE_len]; exact E.len, fun i v h1 _ => by cases h1⟩
  rw [outE_get, Nat.zero_add]
  by_cases hi : i < vs.length
  · have hc : εc[i]? = some εc[i] := List.getElem?_eq_getElem (by omega)
    have hv : vs[i]? = some vs[i] := List.getElem?_eq_getElem hi
    rw [hc, List.getElem?_map, hv, Option.map_some, Option.map_some]
    by_cases ho : own.contains i = true
    · rw [if_pos ho]
      have q := E'.slot i
      have hf := E'.fix i vs[i] ho hv
      rw [hf] at q
      have hi' : i < ε'.length := by rw [← E'.len]; exact lt_of_get hf
      rw [List.getElem?_eq_getElem hi'] at q
      rw [show ε'.getD i none = ε'[i] by simp [List.getD, hi']]
      exact q.congr fun a => ⟨fun z => z.2.2, fun z => ⟨hi, ho, z⟩⟩
    · rw [if_neg ho]
      have q := E.slot i
      rw [hc, List.getElem?_map, hv, Option.map_some] at q
      have nn : ∀ a, ¬ wOut own vs.length w' i a := fun a z => ho z.2.1
      cases es : εc[i] with
      | none => exact nn
      | some s =>
        rw [es] at q hc
        cases s with
        | fro d => obtain ⟨_, v, q1, q2⟩ := q; exact ⟨nn, v, q1, q2.mono sm⟩
        | raw v => exact ⟨nn, q.2⟩
        | scr ns => obtain ⟨q, p0, q1, q2⟩ := q; exact ⟨nn, p0, q1, sm.seq q2⟩
        | own o => exact absurd (by have := parOk_get 0 i εc o hp hc; rwa [Nat.zero_add] at this) ho
  · rw [List.getElem?_eq_none (show εc.length ≤ i by omega), List.getElem?_eq_none (by rw [List.length_map]; omega)]
    exact fun a z => hi z.1
theorem body_fn {body : Sm} {t : TS} {Q : VK} {E0 : XK} (hb : SndS ⟨K, own, vs, fun c d _ H' => E0 c d H'⟩ t body) (E : EnR ⟨K, [], [], noW⟩ Hf H w (vs.map some) εc)
    (P : PostX ⟨K, [], [], fun c d _ H' => E0 c d H'⟩ relRV Hf H w (vs.map some) Q (fnF own N.length body εc)) : t { nx := fun _ H' => Q .non H', rt := Q } (L2.start N vs) H := by
  have hl : vs.length = εc.length := by have := E.len; rw [List.length_map] at this; exact this
  unfold fnF at P
  split at P
  · rename_i hp
    obtain ⟨hp, hz⟩ := hp
    refine hb Hf H w (L2.start N vs) _ _ (E.begin (by omega)) ?_
    have sub : ∀ {w' : Own} {x : Addr}, O (wOut own vs.length w') x → O w' x := fun ⟨i, z⟩ => ⟨i, z.2.2⟩
    split at P
    · rename_i ε' eb
      rw [eb]
      exact fun Hf' H' w' σ' E' st => P Hf' H' _ (fun _ => False) .non ((E.finish hp E' st.mono).recast rfl rfl rfl) (st.out fun x z => z.elim sub False.elim) ⟨fun _ z => z, .non⟩
    · rename_i d ε' eb
      rw [eb]
      exact fun Hf' H' w' σ' S v E' st rv => P Hf' H' _ S v ((E.finish hp E' st.mono).recast rfl rfl rfl) (st.out fun x z => z.elim (fun y => .inl (sub y)) .inr) rv
    · rename_i d ε' eb
      rw [eb]
      exact fun Hf' H' w' σ' S v E' st rv => P Hf' H' _ S v ((E.finish hp E' st.mono).recast rfl rfl rfl) (st.out fun x z => z.elim (fun y => .inl (sub y)) .inr) rv
    · rename_i o ε' eb
      rw [eb]
      intro Hf' H' w' σ' S v E' st rv
      obtain ⟨p, r1, r2, r3, r4⟩ := rv
      exact P Hf' H' _ S v ((E.finish hp E' st.mono).recast rfl rfl rfl) (st.out fun x z => z.elim (fun y => .inl (sub y)) .inr) ⟨p, r1, r2, r3, fun i a hw => r4 i a hw.2.2⟩
    · rename_i i ε' eb
      rw [eb]
      intro Hf' H' w' σ' S v E' st rv
      obtain ⟨n, s1⟩ := rv
      split at P
      · exact P.elim
      · rename_i hi
        split at P
        · rename_i o e1
          have q := E'.slot i
          rw [e1, s1] at q
          obtain ⟨p, q1, q2⟩ := q
          cases q1
          refine P Hf' H' _ (w' i) (.ref p) ((E.finish hp E' st.mono).recast rfl rfl rfl) (st.out fun x z => z.elim (fun y => .inl (sub y)) fun y => .inl ⟨i, y⟩) ⟨p, rfl, q2, fun a z => E'.fre i a z, fun j a hw z => ?_⟩
          have := E'.sep j i a hw.2.2 z
          have := hw.1
          omega
        · rename_i d e1
          have q := E'.slot i
          rw [e1, s1] at q
          obtain ⟨q0, u, q1, q2⟩ := q
          cases q1
          exact P Hf' H' _ (fun _ => False) v ((E.finish hp E' st.mono).recast rfl rfl rfl) (st.out fun x z => z.elim (fun y => .inl (sub y)) False.elim) ⟨fun _ z => z, q2⟩
        · exact P.elim
    · rename_i x ε' eb
      rw [eb]
      exact fun Hf' H' w' σ' cls d E' st rx => P Hf' H' _ cls d ((E.finish hp E' st.mono).recast rfl rfl rfl) (st.out fun x z => sub z) rx
    · exact P.elim
  · exact P.elim
end
end M3

namespace M3
open PySem PySem.Spec L2
open PyProof.Rows hiding St

/-! ### contracts: as HandS's, and no guard stands -/
structure FnG (P : Program) (w : World) (K : PySem.W.Frag) (mg : Str → Option Value) (base : Heap) (CX : CXT) (k : Nat) (f : Addr) (fd : FuncData) (ps : List Str) (sp : Sp) : Prop where
  len : ∀ vs H Q E, sp vs H Q E → vs.length = ps.length
  run : ∀ (A : Around) (outer : List Env) (s : Shared) (H : Hp) (args : Args) (us : List Value) (vs : List V) (Q : VK) (E : XK), Room k A → A.guards = some [] → Env0 P w K mg base A outer s H → BindsTo s fd args (ps.zip us) → Vals vs us → sp vs H Q E →
    codeAny (model P w) A (.call (.ref f) args) (CR CX outer P w H s Q E) s
theorem FnG.mono {P : Program} {w : World} {K : PySem.W.Frag} {mg : Str → Option Value} {base : Heap} {CX : CXT} {j k : Nat} {f : Addr} {fd : FuncData} {ps : List Str} {sp : Sp} (F : FnG P w K mg base CX j f fd ps sp) (h : j ≤ k) :
    FnG P w K mg base CX k f fd ps sp := ⟨F.len, fun A outer s H args us vs Q E hr => F.run A outer s H args us vs Q E (hr.mono h)⟩
theorem FnG.imp {P : Program} {w : World} {K : PySem.W.Frag} {mg : Str → Option Value} {base : Heap} {CX : CXT} {k : Nat} {f : Addr} {fd : FuncData} {ps : List Str} {sp sp' : Sp} (F : FnG P w K mg base CX k f fd ps sp)
    (h : ∀ vs H Q E, sp' vs H Q E → sp vs H Q E) : FnG P w K mg base CX k f fd ps sp' :=
  ⟨fun vs H Q E q => F.len vs H Q E (h _ _ _ _ q), fun A outer s H args us vs Q E hr hg he hb hv hs => F.run A outer s H args us vs Q E hr hg he hb hv (h _ _ _ _ hs)⟩

section
variable {X : Cx} {CX : CXT} {k : Nat} {f C : Addr} {fd : FuncData} {ps : List Str} {sp : Sp} {dvs : List V} {ds : List Value} {E : L2.St → XK} {x m : Str} {p pos apos : Pos} {e o : Expr} {es : List Expr} {ta : TE} {t : TA}
theorem run_fnG {pins : List (Addr × Obj)} {σ : L2.St} {H : Hp} {s : Shared} {Q : VK} {us : List Value} {vs : List V} (F : FnG X.prog X.w X.K X.mg X.base CX k f fd ps sp) (hr : Room k X.A) (hg : X.A.guards = some []) (hb : Binds X.K fd ps ds) (hd : Vals dvs ds) (hx : PassesAt CX X σ (E σ))
    (I : Inv X pins σ H s) (r : Vals vs us) (says : sp (vs ++ dvs) H Q (E σ)) : wpAny (model X.prog X.w) X.A (call (.ref f) us) (EP X pins σ Q) X.xe s := by
  have all : Vals (vs ++ dvs) (us ++ ds) := r.append hd
  have bound := hb s us I.kIn (all.length.symm.trans (F.len _ _ _ _ says))
  refine wpAny_call (codeAny_mono (F.run X.A X.stack s H ⟨us, []⟩ _ _ Q (E σ) hr hg I.env0 bound all says) ?_)
  rintro (e | fl) s2 got
  · exact hx pins H s e s2 I got
  cases fl with
  | ret u => exact I.after got
  | _ => exact got.elim
def tCallG (sp : Sp) (dvs : List V) (E : L2.St → XK) (t : TA) : TE := fun σ H Q => t σ H fun vs H1 => sp (vs ++ dvs) H1 Q (E σ)
theorem pe_callG (F : FnG X.prog X.w X.K X.mg X.base CX k f fd ps sp) (hr : Room k X.A) (hgd : X.A.guards = some []) (hg : Gl X x) (hm : X.mg x = some (.ref f)) (hk : PySem.W.keepIn X.K (.ref f) = true) (hb : Binds X.K fd ps ds) (hd : Vals dvs ds) (hx : ∀ σ, PassesAt CX X σ (E σ))
    (ha : PA X (e :: es) t) (hdb : (x == ("__debug__" : Str)) = false := by decide) (he : starEach (e :: es) X.env = (false, eval e X.env) :: starEach es X.env := by rfl) (hpl : (backTo pos (starEach es X.env)).any (·.1) = false := by rfl) :
    PE X (.Call (.Name x p) (e :: es) [] pos) (tCallG sp dvs E t) := by
  refine ⟨fun pins s σ H Q I h => ?_⟩
  refine wpAny_Call_Name_kw (ld_glob I hg hm ?_ hdb)
  refine PySem.W.callWith_K (h₀ := X.base) I.ok.mod.kin hk (thn (ha.run pos pins s σ H _ I h) fun us s1 ⟨vs, H1, I1, r, q⟩ => ⟨I1.kIn, ?_⟩) he hpl
  exact run_fnG F hr hgd hb hd (hx σ) I1 r q
end

/-- a parameter stands in a slot or in a cell -/
theorem par_kind {N ps : List Str} {scope : Scope} (S : FnScope N ps scope) (n : Nat) (us : List Value) :
    ∀ y ∈ ps.zip us, scope.names.lookup y.1 = some .local ∨ (scope.names.lookup y.1 = some .cell ∧ ((cellsFrom n scope.names []).lookup y.1).isSome = true) :=
  fun y hy => (S.par y.1 (List.of_mem_zip (a := y.1) (b := y.2) hy).1).imp id fun q => ⟨q, PySem.W.cellsFrom_some _ _ _ (.inl q)⟩
/-- a promise of a def from one of its body -/
theorem fn_ofG {CX : CXT} {P : Program} {w : World} {K : PySem.W.Frag} {mg : Str → Option Value} {base : Heap} {k : Nat} {f : Addr} {name qual : Str} {params : Arguments} {body : List Stmt} {scope : Scope} {N ps : List Str} {sp : Sp} {cls dV kV doc pm cdv ct : Value} {an dict : Option Addr} {slots : Array (Option Value)}
    (lk : K.lookup f = some ⟨cls, dict, .func (PySem.W.fnOf name qual params body scope dV kV doc pm an cdv ct), slots⟩) (code : PySem.W.codeIn K cdv qual = true) (S : FnScope N ps scope) (len : ∀ vs H Q E, sp vs H Q E → vs.length = ps.length)
    (hbody : ∀ (A : Around) (outer : List Env) (s : Shared) (H : Hp) (vs : List V) (Q : VK) (E : XK), Room k (A.deeper (envOfC qual scope s.heap.objs.size f cdv)) → (A.deeper (envOfC qual scope s.heap.objs.size f cdv)).guards = some [] → sp vs H Q E →
      ∃ t, PSs (cxOf CX P w K mg base N qual scope f cdv A outer s H E) body t ∧ t { nx := fun _ H' => Q .non H', rt := Q } (L2.start N vs) H) :
    FnG P w K mg base CX (k + 1) f (PySem.W.fnOf name qual params body scope dV kV doc pm an cdv ct) ps sp := by
  constructor
  · exact len
  intro A outer s H args us vs Q E room calm e0 binds r says
  have seen : ∀ {b : Addr} {o : Obj}, base.get? b = some o → s.heap.get? b = some o := fun {b o} e => (e0.bs b o e).1
  have kin : K.In s.heap := e0.mod.kin.keeps fun _ _ => seen
  obtain ⟨t, walk, wants⟩ := hbody A outer s H vs Q E (room.deeper _) calm says
  refine codeAny_call_function room.depth (kin _ _ lk) rfl S.co S.gen rfl (PySem.W.codeRec_of kin code) (binds _ _ _ _ (wpAny_newFunctionEnv_cells S.kind (par_kind S _ us) ?_))
  rintro _ rfl s1 made
  refine ⟨(e0.mod.nolimit.keeps fun _ _ => seen).keeps made.toInCall.keep, codeAny_func ?_⟩
  have at_ := inv_start (CX := CX) (E := E) S room.hd e0 (len _ _ _ _ says) r made
  refine wpAny_mono (walk.run [] s1 (L2.start N vs) H _ at_ wants) ?_ fun _ _ x => x
  intro how s2 got
  cases how with
  | ret u =>
    obtain ⟨v, σ2, H2, J, rel, q⟩ := got
    exact ⟨v, H2, J.os, J.bare, J.base, J.hok, rel, q⟩
  | next =>
    obtain ⟨σ2, H2, J, q⟩ := got
    exact ⟨V.non, H2, J.os, J.bare, J.base, J.hok, rfl, q⟩
  | _ => exact got.choose_spec.choose_spec.2.elim

/-- a def of the text: K's object; its defaults dvs are bound behind what is written -/
structure Dfn (K : PySem.W.Frag) (x : Str) (st : Stmt) (ps : List Str) (dvs : List V) (f : Addr) (fd : FuncData) : Prop where
  ex : ∃ (oc : Value) (od : Option Addr) (dV kV doc pm : Value) (an : Option Addr) (cdv ct : Value) (osl : Array (Option Value)),
    fd = PySem.W.fnOf x x (defArgs st) (defBody st) (defScope st) dV kV doc pm an cdv ct ∧ K.lookup f = some ⟨oc, od, .func fd, osl⟩ ∧ PySem.W.codeIn K cdv x = true
  kp : PySem.W.keepIn K (.ref f) = true
  bd : ∃ ds, Vals dvs ds ∧ Binds K fd ps ds
/-- a def that a body may call: its name is bound to it, and its mirror -/
structure Cal (P : Program) (w : World) (K : PySem.W.Frag) (mg : Str → Option Value) (base : Heap) (CX : CXT) (k : Nat) (x : Str) (n : Nat) (dvs : List V) (F : M RV) : Prop where
  ex : ∃ (f : Addr) (fd : FuncData) (ps : List Str) (ds : List Value), mg x = some (.ref f) ∧ PySem.W.keepIn K (.ref f) = true ∧ Vals dvs ds ∧ Binds K fd ps ds ∧ FnG P w K mg base CX k f fd ps (spM K n F)
theorem Cal.mono {P : Program} {w : World} {K : PySem.W.Frag} {mg : Str → Option Value} {base : Heap} {CX : CXT} {j k : Nat} {x : Str} {n : Nat} {dvs : List V} {F : M RV} (c : Cal P w K mg base CX j x n dvs F) (h : j ≤ k) : Cal P w K mg base CX k x n dvs F := by
  obtain ⟨f, fd, ps, ds, h1, h2, h3, h4, h5⟩ := c.ex
  exact ⟨f, fd, ps, ds, h1, h2, h3, h4, h5.mono h⟩

/-- a def's promise from a derivation of its body -/
theorem dfn_ok {P : Program} {w : World} {K : PySem.W.Frag} {mg : Str → Option Value} {base : Heap} {CX : CXT} {k : Nat} {x : Str} {st : Stmt} {ps N : List Str} {own : List Nat} {dvs : List V} {f : Addr} {fd : FuncData} {body : Sm} (D : Dfn K x st ps dvs f fd) (S : FnScope N ps (defScope st))
    (hbody : ∀ (cdv : Value) (A : Around) (outer : List Env) (s : Shared) (H : Hp) (vs : List V) (E : XK), Room k (A.deeper (envOfC x (defScope st) s.heap.objs.size f cdv)) → (A.deeper (envOfC x (defScope st) s.heap.objs.size f cdv)).guards = some [] →
      ∃ t, PSs (cxOf CX P w K mg base N x (defScope st) f cdv A outer s H E) (defBody st) t ∧ SndS ⟨K, own, vs, fun c d _ H' => E c d H'⟩ t body) :
    FnG P w K mg base CX (k + 1) f fd ps (spM K ps.length (fnF own N.length body)) := by
  obtain ⟨oc, od, dV, kV, doc, pm, an, cdv, ct, osl, rfl, lk, hcd⟩ := D.ex
  refine fn_ofG lk hcd S (fun vs H Q E h => h.1) fun A outer s H vs Q E hr hgd hsp => ?_
  obtain ⟨hl, Hf, w', ε, En0, P0⟩ := hsp
  obtain ⟨t, h1, h2⟩ := hbody cdv A outer s H vs E hr hgd
  exact ⟨t, h1, body_fn (E0 := E) h2 En0 P0⟩
theorem FnG.cal {P : Program} {w : World} {K : PySem.W.Frag} {mg : Str → Option Value} {base : Heap} {CX : CXT} {k : Nat} {x : Str} {st : Stmt} {ps : List Str} {dvs : List V} {f : Addr} {fd : FuncData} {n : Nat} {F : M RV} (h : FnG P w K mg base CX k f fd ps (spM K n F)) (D : Dfn K x st ps dvs f fd) (hm : mg x = some (.ref f)) : Cal P w K mg base CX k x n dvs F :=
  let ⟨ds, h1, h2⟩ := D.bd
  ⟨⟨f, fd, ps, ds, hm, D.kp, h1, h2, h⟩⟩
/-- nothing is promised -/
theorem fnG_bad {P : Program} {w : World} {K : PySem.W.Frag} {mg : Str → Option Value} {base : Heap} {CX : CXT} {k : Nat} {f : Addr} {fd : FuncData} {ps : List Str} : FnG P w K mg base CX k f fd ps (spM K ps.length fun _ => .bad) :=
  ⟨fun vs H Q E h => h.1, fun A outer s H args us vs Q E _ _ _ _ _ h => by obtain ⟨_, Hf, w', ε, _, P0⟩ := h; exact P0.elim⟩
theorem dfn_mk {K : PySem.W.Frag} {x : Str} {st : Stmt} {ps : List Str} {f : Addr} {oc : Value} {od an : Option Addr} {osl : Array (Option Value)} {kV doc pm cdv ct : Value} (l : K.lookup f = some ⟨oc, od, .func (PySem.W.fnOf x x (defArgs st) (defBody st) (defScope st) .none kV doc pm an cdv ct), osl⟩)
    (c : PySem.W.codeIn K cdv x = true) (k : PySem.W.keepIn K (.ref f) = true)
    (h : ∀ (kV doc pm : Value) (an : Option Addr) (cdv ct : Value) (us : List Value), us.length = ps.length → bindArgs (PySem.W.fnOf x x (defArgs st) (defBody st) (defScope st) .none kV doc pm an cdv ct) ⟨us, []⟩ = pure (ps.zip us)) :
    Dfn K x st ps [] f (PySem.W.fnOf x x (defArgs st) (defBody st) (defScope st) .none kV doc pm an cdv ct) :=
  ⟨⟨oc, od, _, kV, doc, pm, an, cdv, ct, osl, rfl, l, c⟩, k, [], .nil, .all (h kV doc pm an cdv ct)⟩
end M3

namespace M3
open PySem PySem.Spec L2
open PyProof.Rows hiding St

/-! ### the rules: a reading and its mirror at once -/
structure ME (X : Cx) (C : Ct) (e : Expr) (t : TE) (m : M RV) : Prop where
  pe : PE X e t
  sn : Snd C relRV t m
  hK : X.K = C.K
structure MO (X : Cx) (C : Ct) (e : Expr) (t : TE) (m : M RV) : Prop where
  pe : PE X e t
  sn : Snd C relO t m
  hK : X.K = C.K
structure MD (X : Cx) (C : Ct) (e : Expr) (t : TE) (m : M D) : Prop where
  pe : PE X e t
  sn : Snd C relD t m
  hK : X.K = C.K
structure MT (X : Cx) (C : Ct) (e : Expr) (t : TT) (m : M Bool) : Prop where
  pt : PT X e t
  sn : Snd C relB t m
  hK : X.K = C.K
structure MW (X : Cx) (C : Ct) (e : Expr) (t : TT) (m : M Bool) : Prop where
  pw : PW X e t
  sn : Snd C relB t m
  hK : X.K = C.K
structure MAs (X : Cx) (C : Ct) (es : List Expr) (t : TA) (ms : M (List RV)) : Prop where
  pa : PA X es t
  sn : Snd C relOs t ms
  hK : X.K = C.K
structure MDs (X : Cx) (C : Ct) (es : List Expr) (t : TA) (ms : M (List D)) : Prop where
  pa : PA X es t
  sn : Snd C relDs t ms
  hK : X.K = C.K
structure MPo (X : Cx) (C : Ct) (e : Option Expr) (t : TO) (m : M (Option Int)) : Prop where
  po : PO X e t
  sn : Snd C relPI t m
structure MI (X : Cx) (C : Ct) (tg e : Expr) (t : TI) (m : M (List D)) : Prop where
  pi : PI X tg e t
  sn : Snd C relI t m
  hK : X.K = C.K
structure MG (X : Cx) (C : Ct) (vs : List Nat) (e : Expr) (g : TG) (p : Pat) : Prop where
  pg : PG X e g
  sn : PatS C g vs p
  hK : X.K = C.K
structure MGs (X : Cx) (C : Ct) (vs : List Nat) (es : List Expr) (g : TGs) (ps : List Pat) : Prop where
  pg : PGs X es g
  sn : PatSs C g vs ps
  hK : X.K = C.K
structure MS (X : Cx) (C : Ct) (st : Stmt) (t : TS) (m : Sm) : Prop where
  ps : PS X st t
  sn : SndS C t m
structure MSs (X : Cx) (C : Ct) (st : List Stmt) (t : TS) (m : Sm) : Prop where
  ps : PSs X st t
  sn : SndS C t m

section
variable {X : Cx} {C : Ct} {a b c e : Expr} {es rest : List Expr} {ta tb tc te : TE} {m m1 m2 m3 : M RV} {md : M D} {tr : TA} {ms : M (List RV)} {dm : M (List D)} {tt1 tt2 : TT} {c1 c2 : M Bool} {pos : Pos}
theorem ME.opd (h : ME X C e te m) : MO X C e te (oE m) := ⟨h.pe, h.sn.op, h.hK⟩
theorem MO.frz (h : MO X C e te m) : MD X C e te (fE m) := ⟨h.pe, h.sn.frz, h.hK⟩
theorem ME.frz (h : ME X C e te m) : MD X C e te (fE (oE m)) := h.opd.frz
theorem me_var (i : Nat) {x : Str} (hN : X.N[i]? = some x := by rfl) (hv : Vis X.env.scope x := by first | exact Or.inl rfl | exact Or.inr (Or.inl rfl) | exact Or.inr (Or.inr rfl)) (hd : (x == ("__debug__" : Str)) = false := by decide)
    (hcd : (x == ("__classdict__" : Str)) = false := by decide) (hK : X.K = C.K := by rfl) : ME X C (.Name x pos) (tVar i) (mVar i) := ⟨pe_var hN hv hd hcd, snd_var i, hK⟩
theorem me_int {i : Int} {j : Nat} (hK : X.K = C.K := by rfl) : ME X C (.Constant (.int i) j pos) (tC (.int i)) (mC (.int i)) := ⟨pe_int, snd_int i, hK⟩
theorem me_bl {i : Bool} {j : Nat} (hK : X.K = C.K := by rfl) : ME X C (.Constant (.bool i) j pos) (tC (.bl i)) (mC (.bool i)) := ⟨pe_bl, snd_bl i, hK⟩
theorem me_str {i : Str} {j : Nat} (hK : X.K = C.K := by rfl) : ME X C (.Constant (.str i) j pos) (tC (.str i)) (mC (.str i)) := ⟨pe_str, snd_str i, hK⟩
theorem me_non {j : Nat} (hK : X.K = C.K := by rfl) : ME X C (.Constant .none j pos) (tC .non) (mC .none) := ⟨pe_non, snd_non, hK⟩
/-- argument lists -/
theorem mas_nil (hK : X.K = C.K := by rfl) : MAs X C [] tNil msNil := ⟨pa_nil, snd_nil, hK⟩
theorem mas_cons (h1 : MO X C e te m) (h2 : MAs X C es tr ms) (hs : starEach (e :: es) X.env = (false, eval e X.env) :: starEach es X.env := by rfl) : MAs X C (e :: es) (tCons te tr) (msCons m ms) := ⟨pa_cons h1.pe h2.pa hs, snd_cons h1.sn h2.sn, h1.hK⟩
theorem mds_nil (hK : X.K = C.K := by rfl) : MDs X C [] tNil dsNil := ⟨pa_nil, snd_dnil, hK⟩
theorem mds_cons (h1 : MD X C e te md) (h2 : MDs X C es tr dm) (hs : starEach (e :: es) X.env = (false, eval e X.env) :: starEach es X.env := by rfl) : MDs X C (e :: es) (tCons te tr) (dsCons md dm) := ⟨pa_cons h1.pe h2.pa hs, snd_dcons h1.sn h2.sn, h1.hK⟩
theorem me_lst {j : Nat} (h : MDs X C es tr dm) : ME X C (.List es pos) (tLst tr) (mLst dm) := ⟨pe_lst h.pa, snd_lst h.sn, h.hK⟩
theorem me_tup {j : Nat} (h : MDs X C es tr dm) : ME X C (.Tuple es j pos) (tTup tr) (mTup dm) := ⟨pe_tup h.pa, snd_tup h.sn, h.hK⟩
/-- operations -/
theorem me_op {op : Operator} {r : R2} {g : D → D → Option Out} (ho : OpR X (binaryOp op) r) (hs : OpS C r g) (h1 : MO X C a ta m1) (h2 : MO X C b tb m2) : ME X C (.BinOp a op b pos) (tOp r ta tb) (mOp g m1 m2) := ⟨pe_op ho h1.pe h2.pe, snd_op hs h1.sn h2.sn, h1.hK⟩
theorem me_un {op : UnaryOp} {r : V → Hp → VK → Prop} {g : D → Option Out} (ho : UnR X (unaryOp op) r) (hs : UnS C r g) (h1 : MO X C a ta m1) : ME X C (.UnaryOp op a pos) (tUn r ta) (mUn g m1) := ⟨pe_un ho h1.pe, snd_un hs h1.sn, h1.hK⟩
theorem me_cmp {op : CmpOp} {r : R2} {g : D → D → Option Bool} (ho : OpR X (compareOp op) r) (hs : OpS C r (bo g)) (h1 : MO X C a ta m1) (h2 : MO X C b tb m2) (hm : behindInMarks op b = false := by first | exact nobehind _ (by decide) (by decide) | rfl | with_unfolding_all rfl) :
    ME X C (.Compare a [op] [b] pos) (tOp r ta tb) (mOp (bo g) m1 m2) := ⟨pe_cmpR ho h1.pe h2.pe hm, snd_op hs h1.sn h2.sn, h1.hK⟩
theorem mt_cmp {op : CmpOp} {r : R2} {g : D → D → Option Bool} (ho : OpR X (compareOp op) r) (hs : OpS C r (bo g)) (h1 : MO X C a ta m1) (h2 : MO X C b tb m2) (hm : behindInMarks op b = false := by first | exact nobehind _ (by decide) (by decide) | rfl | with_unfolding_all rfl) :
    MT X C (.Compare a [op] [b] pos) (tTest (tOp r ta tb)) (mBl (mOp (bo g) m1 m2)) := ⟨pt_cmpR ho h1.pe h2.pe hm, snd_bool (snd_op hs h1.sn h2.sn), h1.hK⟩
/-- a value's truth -/
theorem mt_tru (h : MO X C a ta m) (he : ∀ whole, isTrue a X.env whole = (do let v ← whole; standAt a.pos; holding [v] (truthy v)) := by intro _; rfl) : MT X C a (tTru C.K ta) (mTru m) := ⟨by have q := pt_truth h.pe he; rw [h.hK] at q; exact q, snd_tru h.sn, h.hK⟩
/-- and, or, not: tests -/
theorem mw_and1 (h : MT X C a tt1 c1) : MW X C (.BoolOp .And [a] pos) tt1 c1 := ⟨pw_and1 h.pt, h.sn, h.hK⟩
theorem mw_or1 (h : MT X C a tt1 c1) : MW X C (.BoolOp .Or [a] pos) tt1 c1 := ⟨pw_or1 h.pt, h.sn, h.hK⟩
theorem mw_and (h1 : MT X C a tt1 c1) (h2 : MW X C (.BoolOp .And (b :: rest) pos) tt2 c2) : MW X C (.BoolOp .And (a :: b :: rest) pos) (tAnd tt1 tt2) (mAnd c1 c2) := ⟨pw_and h1.pt h2.pw, snd_and h1.sn h2.sn, h1.hK⟩
theorem mw_or (h1 : MT X C a tt1 c1) (h2 : MW X C (.BoolOp .Or (b :: rest) pos) tt2 c2) : MW X C (.BoolOp .Or (a :: b :: rest) pos) (tOr tt1 tt2) (mOr c1 c2) := ⟨pw_or h1.pt h2.pw, snd_or h1.sn h2.sn, h1.hK⟩
theorem MW.toT (h : MW X C e tt1 c1) : MT X C e tt1 c1 := ⟨h.pw.pt, h.sn, h.hK⟩
theorem mt_not (h : MT X C a tt1 c1) : MT X C (.UnaryOp .Not a pos) (tNot tt1) (mNot c1) := ⟨pt_not h.pt, snd_not h.sn, h.hK⟩
/-- and, or, not: values -/
theorem me_one {op : BoolOp} (h : ME X C a ta m) : ME X C (.BoolOp op [a] pos) ta m := ⟨pe_one h.pe, h.sn, h.hK⟩
theorem me_and (h1 : MO X C a ta m1) (h2 : ME X C (.BoolOp .And (b :: rest) pos) tb m2) : ME X C (.BoolOp .And (a :: b :: rest) pos) (tAndT C.K ta tb) (mAndV m1 m2) := ⟨by have q := pe_andT (pos := pos) h1.pe h2.pe; rw [h1.hK] at q; exact q, snd_andV h1.sn h2.sn, h1.hK⟩
theorem me_not (h : MO X C a ta m) : ME X C (.UnaryOp .Not a pos) (tNotT C.K ta) (mNotV m) := ⟨by have q := pe_notT (pos := pos) h.pe; rw [h.hK] at q; exact q, snd_notV h.sn, h.hK⟩
theorem me_ifE (hc : MT X C c tt1 c1) (h1 : ME X C a ta m1) (h2 : ME X C b tb m2) : ME X C (.IfExp c a b pos) (tIf tt1 ta tb) (mIfE c1 m1 m2) := ⟨pe_ifExp hc.pt h1.pe h2.pe, snd_ifE hc.sn h1.sn h2.sn, h1.hK⟩
/-- slices, subscripts -/
theorem mpo_none : MPo X C none tNoPart mNoPart := ⟨po_none, snd_noPart⟩
theorem mpo_some (h : MO X C e te m) : MPo X C (some e) (tPart te) (mPart m) := ⟨po_some h.pe, snd_part h.sn⟩
theorem me_sl {lo hi : Option Expr} {tl th : TO} {ml mh : M (Option Int)} {p2 : Pos} {r : V → Option Int → Option Int → Hp → VK → Prop} {g : D → Option Int → Option Int → Option Out} (hr : SlR X r) (hs : SlS C r g) (h : MO X C e te m) (hl : MPo X C lo tl ml) (hh : MPo X C hi th mh) :
    ME X C (.Subscript e (.Slice lo hi none p2) pos) (tSl r te tl th) (mSl g m ml mh) := ⟨pe_slice hr h.pe hl.po hh.po, snd_sl hs h.sn hl.sn hh.sn, h.hK⟩
theorem me_ix {r : R2} {g : D → D → Option Out} (hr : IxR X r) (hs : OpS C r g) (h1 : MO X C a ta m1) (h2 : MO X C b tb m2) (hp : PlainIx b := by exact fun _ _ => rfl) : ME X C (.Subscript a b pos) (tOp r ta tb) (mOp g m1 m2) := ⟨pe_ix hr h1.pe h2.pe hp, snd_op hs h1.sn h2.sn, h1.hK⟩
/-- methods of texts -/
theorem me_bm {name : Str} {id : String} {r : V → List V → Hp → VK → Prop} {g : D → List D → Option Out} {apos cpos : Pos} (slot : Slot "str" name id) (hty : typeOf (.builtin id) = pure (.type "method_descriptor")) (hm : MtR X id r) (hs : MtS C r g) (ho : MO X C a ta m) (ha : MAs X C (e :: es) tr ms)
    (hbase : attributeBase a name X.env (eval a X.env) = eval a X.env := by rfl)
    (hfew : ((backTo cpos (starEach (e :: es) X.env)).all (fun x => !x.1) && (backToKw cpos (keywordEach [] X.env)).all (fun x => x.1.isSome)
      && decide ((e :: es).length + ([] : List Keyword).length + (if ([] : List Keyword).isEmpty then 0 else 1) < 30)) = true := by rfl)
    (hline : (apos.endLine == cpos.line) = true := by rfl) (hst : starEach (e :: es) X.env = (false, eval e X.env) :: starEach es X.env := by rfl) (hplain : (backTo cpos (starEach es X.env)).any (·.1) = false := by rfl) :
    ME X C (.Call (.Attribute a name apos) (e :: es) [] cpos) (tBM C.K "str" r ta tr) (mBM g m ms) := ⟨by
      have q := pe_bm (apos := apos) (cpos := cpos) PySem.F.plainAttrs_str slot hty hm ho.pe ha.pa hbase hfew hline hst hplain
      rw [ho.hK] at q
      exact q, snd_bm hs ho.sn ha.sn, ho.hK⟩
/-- calls of what is built in -/
theorem me_callB {id : String} {x : Str} {p : Pos} {r : List V → Hp → VK → Prop} {g : List D → Option Out} (hc : CallR X (.builtin id) r) (hs : CallS C r g) (hm : X.mg x = none) (ha : MAs X C (e :: es) tr ms) (hv : bootBuiltins x = some (.builtin id) := by first | rfl | decide +kernel) (hg : Gl X x := by rfl)
    (hn : x ≠ "__name__" := by decide) (hdb : (x == ("__debug__" : Str)) = false := by decide)
    (he : starEach (e :: es) X.env = (false, eval e X.env) :: starEach es X.env := by rfl) (hpl : (backTo pos (starEach es X.env)).any (·.1) = false := by rfl) : ME X C (.Call (.Name x p) (e :: es) [] pos) (fun σ H Q => tr σ H fun vs H1 => r vs H1 Q) (mCallB g ms) :=
  ⟨pe_callB hc hg hm hv ha.pa hn hdb he hpl, snd_callB hs ha.sn, ha.hK⟩
theorem me_callTy {T : String} {x : Str} {p : Pos} {r : List V → Hp → VK → Prop} {g : List D → Option Out} (hc : CallR X (.type T) r) (hs : CallS C r g) (hm : X.mg x = none) (ha : MAs X C (e :: es) tr ms) (hv : bootBuiltins x = some (.type T) := by first | rfl | decide +kernel) (hg : Gl X x := by rfl)
    (hn : x ≠ "__name__" := by decide) (hdb : (x == ("__debug__" : Str)) = false := by decide)
    (he : starEach (e :: es) X.env = (false, eval e X.env) :: starEach es X.env := by rfl) (hpl : (backTo pos (starEach es X.env)).any (·.1) = false := by rfl) : ME X C (.Call (.Name x p) (e :: es) [] pos) (fun σ H Q => tr σ H fun vs H1 => r vs H1 Q) (mCallB g ms) :=
  ⟨pe_callTy hc hg hm hv ha.pa hn hdb he hpl, snd_callB hs ha.sn, ha.hK⟩
/-- calls of defs -/
def PassW (CX : CXT) (X : Cx) (W : WX) : Prop := ∀ σ, PassesAt CX X σ (WE W σ)
theorem me_call {CX : CXT} {k : Nat} {x : Str} {n : Nat} {F : M RV} {p : Pos} (K : Cal X.prog X.w X.K X.mg X.base CX k x n [] F) (hr : Room k X.A) (hgd : X.A.guards = some []) (hx : PassW CX X C.W) (ha : MAs X C (e :: es) tr ms) (hg : Gl X x := by rfl)
    (hdb : (x == ("__debug__" : Str)) = false := by decide) (he : starEach (e :: es) X.env = (false, eval e X.env) :: starEach es X.env := by rfl) (hpl : (backTo pos (starEach es X.env)).any (·.1) = false := by rfl) :
    ME X C (.Call (.Name x p) (e :: es) [] pos) (tCallG (spM C.K n F) [] (WE C.W) tr) (mCall n F ms) := by
  obtain ⟨f, fd, ps, ds, h1, h2, h3, h4, h5⟩ := K.ex
  refine ⟨?_, ?_, ha.hK⟩
  · have q := pe_callG (pos := pos) (p := p) h5 hr hgd hg h1 h2 h4 h3 hx ha.pa hdb he hpl
    rw [ha.hK] at q
    exact q
  · have q := snd_call (n := n) (F := F) (C := C) (E := WE C.W) (fun _ _ _ _ z => z) ha.sn
    have e : (fun (σ : L2.St) (H : Hp) (Q : VK) => tr σ H fun vs H1 => spM C.K n F vs H1 Q (WE C.W σ)) = tCallG (spM C.K n F) [] (WE C.W) tr := by
      funext σ H Q; unfold tCallG; simp only [List.append_nil]
    rw [e] at q
    exact q
/-- list comprehensions -/
theorem me_lc {elt tg iter : Expr} {ifs : List Expr} {scope : Scope} {own : List (Str × Nat)} {wi : TI} {g : TG} {tt : TT} {mi : M (List D)} {p : Pat} {mm : M D} (vs : List Nat) (ok : BlkOk X.N X.env.scope scope own) (hN : X.N.Nodup) (hi : MI X C tg iter wi mi)
    (hv : ∀ i, vs.contains i = true → C.own.contains i = false)
    (hg : ∀ (s : Shared) (H : Hp) (A : Addr) (cl : List (Str × Addr)) (fp : List Addr), MG (X.blk s H scope (compEnvC scope cl A X.env) fp) ⟨C.K, C.own, C.vs, noW⟩ vs tg g p)
    (ht : ∀ (s : Shared) (H : Hp) (A : Addr) (cl : List (Str × Addr)) (fp : List Addr), PTs (X.blk s H scope (compEnvC scope cl A X.env) fp) ifs tt ∧ Snd ⟨C.K, C.own, C.vs, noW⟩ relB tt c1)
    (he : ∀ (s : Shared) (H : Hp) (A : Addr) (cl : List (Str × Addr)) (fp : List Addr), MD (X.blk s H scope (compEnvC scope cl A X.env) fp) ⟨C.K, C.own, C.vs, noW⟩ elt te mm)
    (hvs : own.map (·.2) = vs := by rfl) (hc : X.calm = true := by rfl) (hs : ∀ x, foldedSetIterable iter X.env x = pure x := by intro _; rfl) : ME X C (.ListComp elt [⟨tg, iter, ifs, 0⟩] scope pos) (tLc wi g tt te vs) (mLc mi p vs c1 mm) := by
  obtain ⟨gs, gp⟩ : PatS ⟨C.K, C.own, C.vs, noW⟩ g vs p ∧ True := ⟨(hg X.s_0 X.H_0 0 [] []).sn, trivial⟩
  refine ⟨?_, snd_lc (C' := ⟨C.K, C.own, C.vs, noW⟩) hv rfl rfl rfl hi.sn gs (ht X.s_0 X.H_0 0 [] []).2 (he X.s_0 X.H_0 0 [] []).sn, hi.hK⟩
  have q := pe_lc (pos := pos) hc hN hi.pi ok (fun s H A cl fp => (hg s H A cl fp).pg) (fun s H A cl fp => (ht s H A cl fp).1) (fun s H A cl fp => (he s H A cl fp).pe) hs
  rw [hvs] at q
  exact q
end
end M3

namespace M3
open PySem PySem.Spec L2
open PyProof.Rows hiding St

/-! ### enumerate(tuple) -/
section
open PySem
theorem enum_new1 {v : Value} {o : Obj} {G : Heap → Prop} (B : Begins v o G) :
    Meets (Builtin.«enumerate.__new__» ⟨[.type "enumerate", v], []⟩) (fun _ R s => G s.heap ∧
      R (.ok (.ret (.ref (s.heap.push o).objs.size))) { s with heap := (s.heap.push o).push { cls := .type "enumerate", data := .fields #[.none, .bool false, .ref s.heap.objs.size, rawInt 0, .none, .none] } }) :=
  .of_wp fun prog w A R s hR => by
    obtain ⟨hp, g, d, tk, os⟩ := s
    obtain ⟨hG, hR⟩ := hR
    have hsub := sub_enumerate
    have step : ∀ {A' : Around} {E : Value → Shared → Prop} {Q : Value → Shared → Prop}, Q (.ref hp.objs.size) ⟨hp.push o, g, d, tk, os⟩ → wpAny (model prog w) A' (pyIter v) Q E ⟨hp, g, d, tk, os⟩ :=
      fun q => B.iter prog w _ _ ⟨hp, g, d, tk, os⟩ _ hG q
    wp_walk
    refine wpAny_stack_any fun st => wpAny_pure ?_
    split
    · rename_i c _ _ _ _ _
      cases (c == Value.type "enumerate") <;> (wp_walk using step; exact ⟨_, rfl, hR⟩)
    · wp_walk using step
      exact ⟨_, rfl, hR⟩
theorem call_enum1 {prog : Program} {w : World} {A : Around} {E : Value → Shared → Prop} {s : Shared} {v : Value} {o : Obj} {G : Heap → Prop} {Q : Value → Shared → Prop} (B : Begins v o G) (hG : G s.heap)
    (h : ∀ h', IsEnum h' (s.heap.objs.size + 1) s.heap.objs.size 0 .none → h'.get? s.heap.objs.size = some o → h'.objs.size = s.heap.objs.size + 2 →
      (∀ b ob, s.heap.get? b = some ob → h'.get? b = some ob) → Q (.ref (s.heap.objs.size + 1)) { s with heap := h' }) :
    wpAny (model prog w) A (call (.type "enumerate") [v]) Q E s := by
  refine callType_new F.called_enumerate (by decide) (F.typeCall_enumerate_1 _) (F.newCall_enumerate_1 _) (fun obj => F.args_object_init_2 obj _) F.entry_enumerate_new (enum_new1 B) ⟨hG, ?_⟩
  have hz : (s.heap.push o).objs.size = s.heap.objs.size + 1 := Heap.size_push ..
  have hf : o.isFreed = false := B.free
  show _ ∧ _
  rw [hz]
  have he : IsEnum ((s.heap.push o).push { cls := .type "enumerate", data := .fields #[.none, .bool false, .ref s.heap.objs.size, rawInt 0, .none, .none] }) (s.heap.objs.size + 1) s.heap.objs.size 0 .none := by
    have q := Heap.get?_push_size (s.heap.push o) (o := { cls := .type "enumerate", data := .fields #[.none, .bool false, .ref s.heap.objs.size, rawInt 0, .none, .none] }) rfl
    rw [hz] at q; exact q
  refine ⟨⟨_, he, rfl⟩, h _ he (Heap.get?_push_of_some _ (Heap.get?_push_size _ hf)) (by rw [Heap.size_push, hz]) fun b ob x => Heap.get?_push_of_some _ (Heap.get?_push_of_some _ x)⟩
end
/-- the tuple at a at each turn, each item in a new pair -/
def IteT (K : PySem.W.Frag) (a : Addr) : It :=
  ⟨fun i H => ∃ (xs : List V) (x : V), SqT K H a xs ∧ xs[i]? = some x, fun i H v H' => ∃ T x, v = .ref T ∧ H T = none ∧ H' = upd H T (.tup [.int (i : Nat), x]) ∧ ∀ xs, SqT K H a xs → xs[i]? = some x, fun i H => ∃ xs : List V, SqT K H a xs ∧ xs.length ≤ i⟩
theorem turn_enumT {P : Program} {w : World} {K : PySem.W.Frag} {elts : List Expr} {kk : Nat} {tpos : Pos} (a e it : Addr) :
    Turn P w K (.Tuple elts kk tpos) (IteT K a) [e, it] e (fun i h => (∃ old, IsEnum h e it ((i : Nat) : Int) old) ∧ h.IsTupleIter it a i ∧ e ≠ it ∧ a ≠ it ∧ e ≠ a) where
  mem := by simp
  obj := fun i h st b hb => by
    obtain ⟨⟨old, he⟩, ⟨o, ho, hc, hd⟩, _⟩ := st
    rcases (show b = e ∨ b = it by simpa using hb) with z | z
    · rw [z]; exact ⟨_, he, fun v q => nomatch q⟩
    · rw [z]; exact ⟨o, ho, fun v q => by rw [hd] at q; cases q⟩
  keep := fun i h h' st k => let ⟨⟨old, he⟩, hi, hne⟩ := st; ⟨⟨old, k e (by simp) _ he⟩, hi.at fun o q => k it (by simp) o q, hne⟩
  item := by
    intro X hP hw hK hc i pins s σ H E I hf st hg
    subst hP hw hK
    obtain ⟨⟨old, he⟩, hit, hne, hai, hea⟩ := st
    obtain ⟨xs, x, hq, hx⟩ := hg
    obtain ⟨its, rv, p, hz⟩ := I.tuple hq
    obtain ⟨u, hu, ru⟩ := rv.get hx
    have hel : e < s.heap.objs.size := Heap.lt_size he
    have hil : it < s.heap.objs.size := by obtain ⟨_, q, _⟩ := hit; exact Heap.lt_size q
    have hiu : its.toArray[i]? = some u := by simpa using hu
    have hlt : i < its.toArray.size := by
      rcases Nat.lt_or_ge i its.toArray.size with q | q
      · exact q
      · rw [Array.getElem?_eq_none q] at hiu; cases hiu
    refine wpAny_pyNext_enum_itemC (Draws.tuple (A := X.A.in1) (I.ok.hd hc) it a hai its.toArray) he (show s.heap.IsTupleIter it a i ∧ s.heap.IsTuple a its.toArray from ⟨hit, p⟩) hlt hne (by simp [hne, hea]) fun y h' tk hy ho hit' hT hsz hk => ?_
    obtain rfl : u = y := Option.some.inj (hiu.symm.trans hy)
    refine ⟨_, rfl, wpAny_letOwnedTupleGo_enum (s := { s with heap := h', toks := tk + 1 }) ho fun h'' he' sb => ?_⟩
    have hT2 : h''.get? s.heap.objs.size = some { cls := .type "tuple", data := .seq #[.int i tk, u] } := (sb.2 _ (Nat.ne_of_gt hel)).trans hT
    have new : ObjOk X.prog X.w (upd H s.heap.objs.size (.tup [.int (i : Nat), x])) h'' s.heap.objs.size (.tup [.int (i : Nat), x]) :=
      ⟨by show 2 ≤ sizeLine; decide, [.int i tk, u], .cons ⟨_, rfl⟩ (.cons ru .nil), ⟨_, hT2, rfl, _, rfl⟩⟩
    have I1 : Inv X pins σ (upd H s.heap.objs.size (.tup [.int (i : Nat), x])) { s with heap := h'', toks := tk + 1 } :=
      I.turnedNew (ch := [e, it]) (fun b ob hb q => (sb.2 b (fun z => hb (by simp [z]))).trans (hk b ob (fun z => hb (by simp [z])) (fun z => hb (by simp [z])) q)) hf (Nat.le_refl _) new
    refine ⟨.ref s.heap.objs.size, _, I1, rfl, ⟨_, x, rfl, I.hok.fresh (Nat.le_refl _), rfl, fun ys hy => by rw [I.tuple_inj hy hq]; exact hx⟩, ⟨⟨u, ?_⟩, hit'.1.at fun o q => (sb.2 it (Ne.symm hne)).trans q, hne, hai, hea⟩, fun b hb => ?_⟩
    · have e1 : ((i + 1 : Nat) : Int) = (i : Int) + 1 := by omega
      rw [e1]; exact he'
    · have hb' : b < s.heap.objs.size := by
        rcases (show b = e ∨ b = it by simpa using hb) with z | z
        · rw [z]; exact hel
        · rw [z]; exact hil
      rw [upd_ne (Nat.ne_of_lt hb')]
      exact (hf b hb).1
  done := by
    intro X hP hw hK hc i pins s σ H E I hf st hg
    subst hP hw hK
    obtain ⟨⟨old, he⟩, hit, hne, hai, hea⟩ := st
    obtain ⟨xs, hq, hx⟩ := hg
    obtain ⟨its, rv, p, hz⟩ := I.tuple hq
    obtain ⟨f0, f1, f2, f3, f4, f5⟩ := hf it (by simp)
    have hl := rv.length
    have D : Draws X.prog X.w X.A.in1 it [it, a] i (fun _ _ => False) (fun j h => j = i ∧ h.IsTupleIter it a i ∧ h.IsTuple a its.toArray) := {
      live := fun _ _ st => let ⟨o, ho, _⟩ := st.2.1; ⟨o, ho⟩
      frame := fun _ _ _ st k => ⟨st.1, st.2.1.at fun o e => k it (by simp) o e, st.2.2.at fun o e => k a (by simp) o e⟩
      item := fun j s Q E hj st _ => by have := st.1; omega
      done := fun s Q E st hE => wpAny_nextOf_tuple_end (I.ok.hd hc) st.2.1 st.2.2 (by simp; omega) hE }
    exact wpAny_pyNext_enum_endD D he ⟨rfl, hit, p⟩ fun h' eb => ⟨rfl, I.turned (t' := s.toks) (fun b o hb q => eb b o hb q) f0 f1 f3 f4 f5⟩
  self := fun A i s Q E st h => let ⟨⟨_, he⟩, _⟩ := st; wpAny_pyIter_enum he h
def iEnumA (K : PySem.W.Frag) (ta : TA) : TI := fun σ H R => ta σ H fun vs H1 => ∃ a xs, vs = [.ref a] ∧ ((SqL K H1 a xs ∧ R (Ite K a) H1) ∨ (SqT K H1 a xs ∧ R (IteT K a) H1))
theorem pi_enumA {X : Cx} {e : Expr} {ta : TA} {p pos tpos : Pos} {elts : List Expr} {kk : Nat} (hg : Gl X "enumerate") (hm : X.mg "enumerate" = none) (ha : PA X [e] ta) (hs : starEach [e] X.env = [(false, eval e X.env)] := by rfl) :
    PI X (.Tuple elts kk tpos) (.Call (.Name "enumerate" p) [e] [] pos) (iEnumA X.K ta) := by
  refine ⟨fun pins s σ H R I h => ?_⟩
  refine Call_ (ld_blt I hg hm boot_enumerate (PyProof.Rows.callWith_type1 (thn (ha.run pos pins s σ H _ I h) fun us s1 ⟨vs, H1, I1, r1, q1⟩ => ?_) hs rfl))
  obtain ⟨a, xs, ex, q1⟩ := q1
  subst ex
  cases r1 with
  | cons r rr =>
    cases rr
    cases r
    have two : ∀ b, b ∈ [s1.heap.objs.size + 1, s1.heap.objs.size] → FpOk X pins H1 b := fun b hb => by
      have hle : s1.heap.objs.size ≤ b := by
        rcases (show b = s1.heap.objs.size + 1 ∨ b = s1.heap.objs.size by simpa using hb) with z | z
        · rw [z]; exact Nat.le_add_right _ _
        · rw [z]; exact Nat.le_refl _
      exact I1.fpOk hle (I1.hok.fresh hle)
    rcases q1 with ⟨hq, q⟩ | ⟨hq, q⟩
    · obtain ⟨its, rv, p', hz⟩ := I1.list hq
      refine call_enumerate_list p'.isList fun h' he hit hsz hk => wpAny_pyIter_enum he ?_
      have I2 : Inv X pins σ H1 { s1 with heap := h' } := I1.kept (t' := s1.toks) hk
      exact ⟨s1.heap.objs.size + 1, [s1.heap.objs.size + 1, s1.heap.objs.size], _, _, H1, rfl, I2, turn_enum a (s1.heap.objs.size + 1) s1.heap.objs.size, ⟨⟨.none, he⟩, hit, Nat.succ_ne_self _⟩, two, q⟩
    · obtain ⟨its, rv, p', hz⟩ := I1.tuple hq
      obtain ⟨oa, hoa, _⟩ := id p'
      have hal : a < s1.heap.objs.size := Heap.lt_size hoa
      refine call_enum1 (begins_tuple a its.toArray) p' fun h' he hio hsz hk => wpAny_pyIter_enum he ?_
      have I2 : Inv X pins σ H1 { s1 with heap := h' } := I1.kept (t' := s1.toks) hk
      exact ⟨s1.heap.objs.size + 1, [s1.heap.objs.size + 1, s1.heap.objs.size], _, _, H1, rfl, I2, turn_enumT a (s1.heap.objs.size + 1) s1.heap.objs.size, ⟨⟨.none, he⟩, ⟨_, hio, rfl, rfl⟩, Nat.succ_ne_self _, Nat.ne_of_lt hal, Nat.ne_of_gt (Nat.lt_succ_of_lt hal)⟩, two, q⟩
theorem walk_enumT {K : PySem.W.Frag} {a : Addr} {xs : List V} : Walk (IteT K a) xs.length (fun H => SqT K H a xs) (YPair (fun i => some (.int (i : Nat))) (fun i => xs[i]?)) := by
  refine ⟨fun i _ hi q => ⟨xs, xs[i], q, by simp [hi]⟩, fun _ q => ⟨xs, q, Nat.le_refl _⟩, fun i H v H' _ q y => ?_⟩
  obtain ⟨T, x, h1, h2, h3, h4⟩ := y
  exact ⟨T, _, x, h1, h2, h3, rfl, h4 xs q⟩
end M3

namespace M3
open PySem PySem.Spec L2
open PyProof.Rows hiding St

/-! ### zip with strict -/
section
open PySem
variable {prog : Program} {w : World} {A : Around} {E : Value → Shared → Prop} {s : Shared}
abbrev ZObj (b : Bool) (h : Heap) (z TI TO : Addr) (v : Value) : Prop := h.get? z = some { cls := .type "zip", data := .fields #[v, .bool false, .bool b, .ref TI, .ref TO] }
theorem noe_ok {it : Addr} {Q : Option Value → Shared → Prop} (h : ∀ E', wpAny (model prog w) A (Builtin.SmallTypes.nextOf (.ref it)) (fun v s' => Q (some v) s') E' s) : wpAny (model prog w) A (Builtin.SmallTypes.nextOrEnd (.ref it)) Q E s := by
  unfold Builtin.SmallTypes.nextOrEnd
  exact wpAny_bind (wpAny_attempt (wpAny_mono (h _) (fun _ _ q => wpAny_pure q) fun _ _ x => x))
theorem noe_end {it : Addr} {Q : Option Value → Shared → Prop} {P : Heap → Prop} (h : ∀ (Q' E' : Value → Shared → Prop), (∀ h' e, P h' → (∃ o, h'.get? e = some o ∧ o.cls = .type "StopIteration") → E' (.ref e) { s with heap := h' }) → wpAny (model prog w) A (Builtin.SmallTypes.nextOf (.ref it)) Q' E' s)
    (hQ : ∀ h', P h' → Q none { s with heap := h' }) : wpAny (model prog w) A (Builtin.SmallTypes.nextOrEnd (.ref it)) Q E s := by
  unfold Builtin.SmallTypes.nextOrEnd
  refine wpAny_bind (wpAny_attempt (h _ _ fun h' e p ⟨o, ho, hc⟩ => ?_))
  exact wpAny_bind (wpAny_isInstance (T := "StopIteration") (b := true) ⟨o, ho, hc⟩ isSubtype_stop (wpAny_pure (hQ h' p)))
variable {z TI TO j k : Addr} {fj fk : List Addr} {n m i : Nat} {Pj Pk : Nat → Value → Prop} {Sj Sk : Nat → Heap → Prop} {a b : Value}
theorem zipS_item {Q : Value → Shared → Prop} (S : ZipSep2 z TI TO j k fj fk) (Dj : Draws prog w A j fj n Pj Sj) (Dk : Draws prog w A k fk m Pk Sk)
    (hz : ZObj true s.heap z TI TO .none) (hI : IsTupOf2 s.heap TI (.ref j) (.ref k)) (hO : IsTupOf2 s.heap TO a b) (sj : Sj i s.heap) (sk : Sk i s.heap) (lj : i < n) (lk : i < m)
    (hQ : ∀ x y h' tk, Pj i x → Pk i y → ZObj true h' z TI TO (rawInt s.heap.objs.size) → IsTupOf2 h' TO x y → Sj (i + 1) h' → Sk (i + 1) h' → IsTupOf2 h' s.heap.objs.size x y → h'.objs.size = s.heap.objs.size + 1 →
      (∀ c o, c ≠ z → c ≠ TO → c ≠ j → c ≠ k → s.heap.get? c = some o → h'.get? c = some o) → Q (.ref s.heap.objs.size) { s with heap := h', toks := tk }) :
    wpAny (model prog w) A (Builtin.«zip.__next__» ⟨[.ref z], []⟩) (fun fin s' => ∃ v, fin = .done (.ret v) ∧ Q v s') E s := by
  obtain ⟨hp, g, d, t0, os⟩ := s
  show wpAny _ A (field (.ref z) 2 >>= _) _ E _
  refine wpAny_bind (wpAny_field hz rfl (x := .bool true) rfl ?_)
  show wpAny _ A (field (.ref z) 3 >>= _) _ E _
  refine wpAny_bind (wpAny_field hz rfl (x := .ref TI) rfl (wpAny_bind (wpAny_seqItems hI rfl ?_)))
  show wpAny _ A (Builtin.SmallTypes.ownedTupleIsFree (.ref z) >>= _) _ E _
  refine wpAny_bind ?_
  unfold Builtin.SmallTypes.ownedTupleIsFree
  refine wpAny_bind (wpAny_field hz rfl (x := .none) rfl (wpAny_pure ?_))
  simp only [if_true]
  refine wpAny_bind (wpAny_rule (wpAny_bind (wpAny_field hz rfl (x := .ref TO) rfl (wpAny_bind (wpAny_setField_rec hz (by simp) fun u0 z0 s0 => ?_)))))
  have s0 : Heap.SameBut z hp u0 := s0
  have z0 : ZObj true u0 z TI TO .ellipsis := z0
  refine wpAny_bind ?_
  simp only [List.zipIdx_cons, List.zipIdx_nil, List.forIn_cons, List.forIn_nil]
  refine wpAny_bind (wpAny_bind (wpAny_onRaise ?_))
  show wpAny _ A (Builtin.SmallTypes.nextOrEnd (.ref j)) _ _ ⟨u0, g, d, t0, os⟩
  refine noe_ok fun E' => Dj.item i _ _ _ lj (Dj.over sj s0 S.zf1) fun x p1 t1 hx nj q1 => ?_
  have q1 : Heap.SameBut j u0 p1 := q1
  have o1 : IsTupOf2 p1 TO a b := q1.extBut _ _ S.Ti1 (s0.extBut _ _ S.TOz hO)
  refine wpAny_bind (wpAny_seqItems (s := ⟨p1, g, d, t1, os⟩) o1 rfl (wpAny_bind (updateSeq_IsTupOf2 (s := ⟨p1, g, d, t1, os⟩) o1 fun u1 v1 s1 => ?_)))
  have v1 : IsTupOf2 u1 TO x b := v1
  have s1 : Heap.SameBut TO p1 u1 := s1
  refine wpAny_bind (wpAny_letGo (wpAny_pure (wpAny_bind (wpAny_bind (wpAny_onRaise ?_)))))
  show wpAny _ A (Builtin.SmallTypes.nextOrEnd (.ref k)) _ _ ⟨u1, g, d, t1, os⟩
  refine noe_ok fun E' => Dk.item i _ _ _ lk (Dk.over (Dk.over (Dk.over sk s0 S.zf2) q1 S.sep1_2) s1 S.Tf2) fun y p2 t2 hy nk q2 => ?_
  have q2 : Heap.SameBut k u1 p2 := q2
  have o2 : IsTupOf2 p2 TO x b := q2.extBut _ _ S.Ti2 v1
  refine wpAny_bind (wpAny_seqItems (s := ⟨p2, g, d, t2, os⟩) o2 rfl (wpAny_bind (updateSeq_IsTupOf2 (s := ⟨p2, g, d, t2, os⟩) o2 fun u2 v2 s2 => ?_)))
  have v2 : IsTupOf2 u2 TO x y := v2
  have s2 : Heap.SameBut TO p2 u2 := s2
  refine wpAny_bind (wpAny_letGo (wpAny_pure (wpAny_pure (wpAny_bind (wpAny_seqItems (s := ⟨u2, g, d, t2, os⟩) v2 rfl (wpAny_bind (wpAny_newTuple ?_)))))))
  have sz : u2.objs.size = hp.objs.size := by rw [s2.1, q2.1, s1.1, q1.1, s0.1]
  have zz : ZObj true u2 z TI TO .ellipsis := s2.extBut _ _ S.TOz.symm (q2.extBut _ _ S.zi2 (s1.extBut _ _ S.TOz.symm (q1.extBut _ _ S.zi1 z0)))
  have kk : ∀ c o, c ≠ z → c ≠ TO → c ≠ j → c ≠ k → hp.get? c = some o → u2.get? c = some o := fun c o cz cT c1 c2 e => s2.extBut _ _ cT (q2.extBut _ _ c2 (s1.extBut _ _ cT (q1.extBut _ _ c1 (s0.extBut _ _ cz e))))
  have nj2 : Sj (i + 1) u2 := Dj.over (Dj.over (Dj.over nj s1 S.Tf1) q2 S.sep2_1) s2 S.Tf1
  have nk2 : Sk (i + 1) u2 := Dk.over nk s2 S.Tf2
  have zl : z < u2.objs.size := Heap.lt_size zz
  show wpAny _ A (Builtin.SmallTypes.ownedTupleHandOut (.ref z) (.ref u2.objs.size) >>= _) _ E ⟨u2.push { cls := .type "tuple", data := .seq #[x, y] }, g, d, t2, os⟩
  refine wpAny_bind ?_
  unfold Builtin.SmallTypes.ownedTupleHandOut
  have z6 : ZObj true (u2.push { cls := .type "tuple", data := .seq #[x, y] }) z TI TO .ellipsis := Heap.get?_push_of_some _ zz
  refine wpAny_bind (wpAny_setField_rec z6 (by simp) fun u7 z7 s7 => ?_)
  have z7 : ZObj true u7 z TI TO (rawInt u2.objs.size) := z7
  refine wpAny_setField_rec z7 (by simp) fun u8 z8 s8 => ?_
  have z8 : ZObj true u8 z TI TO (rawInt u2.objs.size) := z8
  have s7 : Heap.SameBut z (u2.push { cls := .type "tuple", data := .seq #[x, y] }) u7 := s7
  have s8 : Heap.SameBut z u7 u8 := s8
  have up : ∀ c o, c ≠ z → u2.get? c = some o → u8.get? c = some o := fun c o ne e => s8.extBut _ _ ne (s7.extBut _ _ ne (Heap.get?_push_of_some _ e))
  have t8 : IsTupOf2 u8 u2.objs.size x y := s8.extBut _ _ (Nat.ne_of_gt zl) (s7.extBut _ _ (Nat.ne_of_gt zl) (Heap.get?_push_size _ rfl))
  have l8 : u8.objs.size = u2.objs.size + 1 := by rw [s8.1, s7.1, Heap.size_push]
  rw [sz] at z8 t8 l8
  refine wpAny_pure ⟨_, rfl, ?_⟩
  show Q (.ref u2.objs.size) ⟨u8, g, d, t2, os⟩
  rw [sz]
  exact hQ x y u8 t2 hx hy z8 (up _ _ S.TOz v2) (Dj.frame _ _ _ nj2 fun c hc o e => up c o (fun q => S.zf1 (q ▸ hc)) e) (Dk.frame _ _ _ nk2 fun c hc o e => up c o (fun q => S.zf2 (q ▸ hc)) e) t8 l8 fun c o cz cT c1 c2 e => up c o cz (kk c o cz cT c1 c2 e)
theorem zipS_end {Q : Fin → Shared → Prop} (hh : A.handled = none) (S : ZipSep2 z TI TO j k fj fk) (Dj : Draws prog w A j fj n Pj Sj) (Dk : Draws prog w A k fk n Pk Sk)
    (hz : ZObj true s.heap z TI TO .none) (hI : IsTupOf2 s.heap TI (.ref j) (.ref k)) (hO : IsTupOf2 s.heap TO a b) (sj : Sj n s.heap) (sk : Sk n s.heap) (kz : k ≠ j)
    (hE : ∀ h' e, (∀ c o, c ≠ z → c ≠ TO → c ≠ j → c ≠ k → s.heap.get? c = some o → h'.get? c = some o) → (∃ o, h'.get? e = some o ∧ o.cls = .type "StopIteration") → E (.ref e) { s with heap := h' }) :
    wpAny (model prog w) A (Builtin.«zip.__next__» ⟨[.ref z], []⟩) Q E s := by
  obtain ⟨hp, g, d, t0, os⟩ := s
  show wpAny _ A (field (.ref z) 2 >>= _) _ E _
  refine wpAny_bind (wpAny_field hz rfl (x := .bool true) rfl ?_)
  show wpAny _ A (field (.ref z) 3 >>= _) _ E _
  refine wpAny_bind (wpAny_field hz rfl (x := .ref TI) rfl (wpAny_bind (wpAny_seqItems hI rfl ?_)))
  show wpAny _ A (Builtin.SmallTypes.ownedTupleIsFree (.ref z) >>= _) _ E _
  refine wpAny_bind ?_
  unfold Builtin.SmallTypes.ownedTupleIsFree
  refine wpAny_bind (wpAny_field hz rfl (x := .none) rfl (wpAny_pure ?_))
  simp only [if_true]
  refine wpAny_bind (wpAny_rule (wpAny_bind (wpAny_field hz rfl (x := .ref TO) rfl (wpAny_bind (wpAny_setField_rec hz (by simp) fun u0 z0 s0 => ?_)))))
  have s0 : Heap.SameBut z hp u0 := s0
  have z0 : ZObj true u0 z TI TO .ellipsis := z0
  refine wpAny_bind ?_
  simp only [List.zipIdx_cons, List.zipIdx_nil, List.forIn_cons, List.forIn_nil]
  refine wpAny_bind (wpAny_bind (wpAny_onRaise ?_))
  show wpAny _ A (Builtin.SmallTypes.nextOrEnd (.ref j)) _ _ ⟨u0, g, d, t0, os⟩
  refine noe_end (P := fun h' => Heap.ExtBut j u0 h') (fun Q' E' hE' => Dj.done ⟨u0, g, d, t0, os⟩ _ _ (Dj.over sj s0 S.zf1) hE') fun q1 e1 => ?_
  have z1 : ZObj true q1 z TI TO .ellipsis := e1 _ _ S.zi1 z0
  refine wpAny_bind (wpAny_setField_rec (s := ⟨q1, g, d, t0, os⟩) z1 (by simp) fun u1 z2 s1 => ?_)
  have s1 : Heap.SameBut z q1 u1 := s1
  refine wpAny_bind (wpAny_bind ?_)
  simp only [List.drop_succ_cons, List.drop_zero, List.zipIdx_cons, List.zipIdx_nil, List.forIn_cons, List.forIn_nil]
  have skq : Sk n u1 := Dk.over (Dk.frame _ _ _ (Dk.over sk s0 S.zf2) fun c hc o e => e1 c o (fun q => S.sep1_2 (q ▸ hc)) e) s1 S.zf2
  refine wpAny_bind (wpAny_bind (noe_end (P := fun h' => Heap.ExtBut k u1 h') (fun Q' E' hE' => Dk.done ⟨u1, g, d, t0, os⟩ _ _ skq hE') fun q2 e2 => ?_))
  simp only [Option.isSome_none, Bool.false_eq_true, if_false]
  refine wpAny_pure (wpAny_pure (wpAny_bind (wpAny_rule ?_)))
  unfold Builtin.SmallTypes.stopIteration
  refine wpAny_bind ?_
  simp only [newExc, newTuple]
  refine wpAny_bind (wpAny_newObj_type ?_ (by size_fits))
  refine wpAny_bind (m := firstArgMember _ _) (wpAny_of_eq (a := Value.none) (by first | rfl | (simp only [firstArgMember]; rfl)) (wpAny_newObj_type ?_ (by size_fits)))
  simp only [raiseNew]
  refine wpAny_bind (wpAny_handled ?_)
  rw [hh]
  refine wpAny_bind (wpAny_pure (wpAny_throw ?_))
  exact hE _ _ (fun c o cz cT cj ck e => Heap.get?_push_of_some _ (Heap.get?_push_of_some _ (e2 _ _ ck (s1.extBut _ _ cz (e1 _ _ cj (s0.extBut _ _ cz e)))))) ⟨_, Heap.get?_push_size _ rfl, rfl⟩
theorem zipS_pyItem {Q : Option Value → Shared → Prop} (S : ZipSep2 z TI TO j k fj fk) (Dj : Draws prog w A.in1 j fj n Pj Sj) (Dk : Draws prog w A.in1 k fk m Pk Sk)
    (hz : ZObj true s.heap z TI TO .none) (hI : IsTupOf2 s.heap TI (.ref j) (.ref k)) (hO : IsTupOf2 s.heap TO a b) (sj : Sj i s.heap) (sk : Sk i s.heap) (lj : i < n) (lk : i < m)
    (hQ : ∀ x y h' tk, Pj i x → Pk i y → ZObj true h' z TI TO (rawInt s.heap.objs.size) → IsTupOf2 h' TO x y → Sj (i + 1) h' → Sk (i + 1) h' → IsTupOf2 h' s.heap.objs.size x y → h'.objs.size = s.heap.objs.size + 1 →
      (∀ c o, c ≠ z → c ≠ TO → c ≠ j → c ≠ k → s.heap.get? c = some o → h'.get? c = some o) → Q (some (.ref s.heap.objs.size)) { s with heap := h', toks := tk }) :
    wpAny (model prog w) A (pyNext (.ref z)) Q E s := by
  have ty : s.TypeIs (.ref z) "zip" := ⟨_, hz, rfl⟩
  unfold pyNext
  refine wpAny_bind (wpAny_attempt (wpAny_callSpecial?_slot (name := Str.ofString "__next__") ty F.slot_zip_next (wpAny_call_entry F.slot_zip_next ty F.entry_zip_next ?_ (F.args_zip_next_1 _))))
  exact zipS_item S Dj Dk hz hI hO sj sk lj lk fun x y h' tk a1 a2 a3 a4 a5 a6 a7 a8 a9 => wpAny_pure (hQ x y h' tk a1 a2 a3 a4 a5 a6 a7 a8 a9)
theorem zipS_pyEnd {Q : Option Value → Shared → Prop} (hh : A.in1.handled = none) (S : ZipSep2 z TI TO j k fj fk) (Dj : Draws prog w A.in1 j fj n Pj Sj) (Dk : Draws prog w A.in1 k fk n Pk Sk)
    (hz : ZObj true s.heap z TI TO .none) (hI : IsTupOf2 s.heap TI (.ref j) (.ref k)) (hO : IsTupOf2 s.heap TO a b) (sj : Sj n s.heap) (sk : Sk n s.heap) (kz : k ≠ j)
    (hQ : ∀ h', (∀ c o, c ≠ z → c ≠ TO → c ≠ j → c ≠ k → s.heap.get? c = some o → h'.get? c = some o) → Q none { s with heap := h' }) :
    wpAny (model prog w) A (pyNext (.ref z)) Q E s := by
  have ty : s.TypeIs (.ref z) "zip" := ⟨_, hz, rfl⟩
  unfold pyNext
  refine wpAny_bind (wpAny_attempt (wpAny_callSpecial?_slot (name := Str.ofString "__next__") ty F.slot_zip_next (wpAny_call_entry F.slot_zip_next ty F.entry_zip_next ?_ (F.args_zip_next_1 _))))
  refine zipS_end hh S Dj Dk hz hI hO sj sk kz fun h' e up st => ?_
  obtain ⟨oe, he, hc⟩ := st
  exact wpAny_bind (wpAny_isInstance (T := "StopIteration") (b := true) ⟨oe, he, hc⟩ isSubtype_stop (wpAny_pure (hQ h' up)))
theorem zipS_go {elts : List Expr} {kk : Nat} {pos : Pos} {T : Addr} {Q : Unit → Shared → Prop} (hz : ZObj true s.heap z TI TO (rawInt T)) (hQ : ∀ h', ZObj true h' z TI TO .none → Heap.SameBut z s.heap h' → Q () { s with heap := h' }) :
    wpAny (model prog w) A (letOwnedTupleGo (.Tuple elts kk pos) (.ref z) (.ref T)) Q E s := by
  unfold letOwnedTupleGo
  refine wpAny_bind (wpAny_load hz ?_)
  show wpAny _ A (if (_ && (#[rawInt T, Value.bool false, Value.bool true, Value.ref TI, Value.ref TO] : Array Value)[0]? == some (rawInt T)) = true then _ else _) Q E s
  rw [if_pos (by simp)]
  refine wpAny_bind (wpAny_rule ?_)
  exact wpAny_setField_rec hz (by simp) fun h' z' s' => hQ h' z' s'
theorem zipS_iter {v : Value} {Q : Value → Shared → Prop} (hz : ZObj true s.heap z TI TO v) (h : Q (.ref z) s) : wpAny (model prog w) A (pyIter (.ref z)) Q E s := by
  have ty : s.TypeIs (.ref z) "zip" := ⟨_, hz, rfl⟩
  refine wpAny_pyIter_slot ty F.slot_zip_iter (wpAny_call_entry F.slot_zip_iter ty F.entry_zip_iter ?_ (F.args_zip_iter_1 _))
  exact wpAny_pure ⟨_, rfl, "zip", _, ty, F.slot_zip_next.lookup, h⟩
end
end M3

namespace M3
open PySem PySem.Spec L2
open PyProof.Rows hiding St

/-! ### zip of a list or tuple with a list or tuple, strict or not -/
def SqM (K : PySem.W.Frag) (t : Bool) (H : Hp) (a : Addr) (xs : List V) : Prop := match t with
  | true => SqT K H a xs
  | false => SqL K H a xs
def ItM (t : Bool) (h : Heap) (it a : Addr) (i : Nat) : Prop := match t with
  | true => h.IsTupleIter it a i
  | false => h.IsListIter it a i
def IsM (t : Bool) (h : Heap) (a : Addr) (vs : Array Value) : Prop := match t with
  | true => h.IsTuple a vs
  | false => h.IsList a vs
theorem drawsM {prog : Program} {w : World} {A : Around} (hh : A.handled = none) (t : Bool) (it a : Addr) (hne : a ≠ it) (items : Array Value) :
    Draws prog w A it [it, a] items.size (fun i v => items[i]? = some v) (fun i h => ItM t h it a i ∧ IsM t h a items) := by
  cases t with
  | true => exact Draws.tuple hh it a hne items
  | false => exact Draws.list hh it a hne items
theorem drawsE {prog : Program} {w : World} {A : Around} (hh : A.handled = none) (t : Bool) (it a : Addr) (items : Array Value) (i : Nat) (hi : items.size ≤ i) :
    Draws prog w A it [it, a] i (fun _ _ => False) (fun j h => j = i ∧ ItM t h it a i ∧ IsM t h a items) where
  live := fun _ _ st => by
    cases t with
    | true => obtain ⟨_, ⟨o, ho, _⟩, _⟩ := st; exact ⟨o, ho⟩
    | false => obtain ⟨_, ⟨o, ho, _⟩, _⟩ := st; exact ⟨o, ho⟩
  frame := fun _ _ _ st k => by
    cases t with
    | true =>
      obtain ⟨e, s1, s2⟩ := st
      exact ⟨e, Heap.IsTupleIter.at s1 fun o e => k it (by simp) o e, Heap.IsTuple.at s2 fun o e => k a (by simp) o e⟩
    | false =>
      obtain ⟨e, s1, s2⟩ := st
      exact ⟨e, Heap.IsListIter.at s1 fun o e => k it (by simp) o e, Heap.IsList.at s2 fun o e => k a (by simp) o e⟩
  item := fun j s Q E hj st _ => by have := st.1; omega
  done := fun s Q E st hE => by
    cases t with
    | true => exact wpAny_nextOf_tuple_end hh st.2.1 st.2.2 (by simp; omega) hE
    | false => exact wpAny_nextOf_list_end hh st.2.1 st.2.2 (by simp; omega) hE
def ItzM (b : Bool) (K : PySem.W.Frag) (t u : Bool) (p q : Addr) : It :=
  ⟨fun i H => ∃ (xs ys : List V) (x y : V), SqM K t H p xs ∧ SqM K u H q ys ∧ xs[i]? = some x ∧ ys[i]? = some y,
    fun i H v H' => ∃ T x y, v = .ref T ∧ H T = none ∧ H' = upd H T (.tup [x, y]) ∧ (∀ xs, SqM K t H p xs → xs[i]? = some x) ∧ ∀ ys, SqM K u H q ys → ys[i]? = some y,
    fun i H => ∃ xs ys : List V, SqM K t H p xs ∧ SqM K u H q ys ∧ (match b with
      | true => xs.length ≤ i ∧ ys.length ≤ i
      | false => xs.length ≤ i ∨ ys.length ≤ i)⟩
theorem seqM {X : Cx} {pins : List (Addr × Obj)} {σ : L2.St} {H : Hp} {s : Shared} (I : Inv X pins σ H s) {t : Bool} {a : Addr} {xs : List V} (h : SqM X.K t H a xs) : ∃ its : List Value, Vals xs its ∧ IsM t s.heap a its.toArray := by
  cases t with
  | true =>
    obtain ⟨its, rv, p, _⟩ := I.tuple h
    exact ⟨its, rv, p⟩
  | false =>
    obtain ⟨its, rv, p, _⟩ := I.list h
    exact ⟨its, rv, p.isList⟩
theorem sqM_inj {X : Cx} {pins : List (Addr × Obj)} {σ : L2.St} {H : Hp} {s : Shared} (I : Inv X pins σ H s) {t : Bool} {a : Addr} {xs ys : List V} (h : SqM X.K t H a xs) (h' : SqM X.K t H a ys) : xs = ys := by
  cases t with
  | true => exact I.tuple_inj h h'
  | false => exact I.list_inj h h'
theorem itM_obj {t : Bool} {h : Heap} {it a : Addr} {i : Nat} (x : ItM t h it a i) : ∃ o, h.get? it = some o ∧ ∀ v, o.data ≠ .cell v := by
  cases t with
  | true => obtain ⟨o, e, _, d⟩ := x; exact ⟨o, e, fun v q => by rw [d] at q; cases q⟩
  | false => obtain ⟨o, e, _, d⟩ := x; exact ⟨o, e, fun v q => by rw [d] at q; cases q⟩
theorem itM_keep {t : Bool} {h h' : Heap} {it a : Addr} {i : Nat} (x : ItM t h it a i) (k : ∀ o, h.get? it = some o → h'.get? it = some o) : ItM t h' it a i := by
  cases t with
  | true => exact Heap.IsTupleIter.at x k
  | false => exact Heap.IsListIter.at x k
theorem zM_go {b : Bool} {prog : Program} {w : World} {A : Around} {E : Value → Shared → Prop} {s : Shared} {elts : List Expr} {kk : Nat} {pos : Pos} {z TI TO T : Addr} {Q : Unit → Shared → Prop} (hz : ZObj b s.heap z TI TO (rawInt T)) (hQ : ∀ h', ZObj b h' z TI TO .none → Heap.SameBut z s.heap h' → Q () { s with heap := h' }) :
    wpAny (model prog w) A (letOwnedTupleGo (.Tuple elts kk pos) (.ref z) (.ref T)) Q E s := by
  cases b with
  | true => exact zipS_go hz hQ
  | false => exact wpAny_letOwnedTupleGo_zip hz hQ
theorem zM_iter {b : Bool} {prog : Program} {w : World} {A : Around} {E : Value → Shared → Prop} {s : Shared} {z TI TO : Addr} {v : Value} {Q : Value → Shared → Prop} (hz : ZObj b s.heap z TI TO v) (h : Q (.ref z) s) : wpAny (model prog w) A (pyIter (.ref z)) Q E s := by
  cases b with
  | true => exact zipS_iter hz h
  | false => exact wpAny_pyIter_zip hz h
theorem zM_item {b : Bool} {prog : Program} {w : World} {A : Around} {E : Value → Shared → Prop} {s : Shared} {z TI TO j k : Addr} {fj fk : List Addr} {n m i : Nat} {Pj Pk : Nat → Value → Prop} {Sj Sk : Nat → Heap → Prop} {x0 y0 : Value} {Q : Option Value → Shared → Prop} (S : ZipSep2 z TI TO j k fj fk) (Dj : Draws prog w A.in1 j fj n Pj Sj) (Dk : Draws prog w A.in1 k fk m Pk Sk)
    (hz : ZObj b s.heap z TI TO .none) (hI : IsTupOf2 s.heap TI (.ref j) (.ref k)) (hO : IsTupOf2 s.heap TO x0 y0) (sj : Sj i s.heap) (sk : Sk i s.heap) (lj : i < n) (lk : i < m)
    (hQ : ∀ x y h' tk, Pj i x → Pk i y → ZObj b h' z TI TO (rawInt s.heap.objs.size) → IsTupOf2 h' TO x y → Sj (i + 1) h' → Sk (i + 1) h' → IsTupOf2 h' s.heap.objs.size x y → h'.objs.size = s.heap.objs.size + 1 →
      (∀ c o, c ≠ z → c ≠ TO → c ≠ j → c ≠ k → s.heap.get? c = some o → h'.get? c = some o) → Q (some (.ref s.heap.objs.size)) { s with heap := h', toks := tk }) :
    wpAny (model prog w) A (pyNext (.ref z)) Q E s := by
  cases b with
  | true => exact zipS_pyItem S Dj Dk hz hI hO sj sk lj lk hQ
  | false => exact wpAny_pyNext_zipD2_item S Dj Dk hz hI hO sj sk lj lk hQ
theorem turn_zipM {P : Program} {w : World} {K : PySem.W.Frag} {elts : List Expr} {kk : Nat} {tpos : Pos} (b t u : Bool) {p q z TI TO j k : Addr} (S : ZipSep2 z TI TO j k [j, p] [k, q]) (pj : p ≠ j) (qk : q ≠ k) :
    Turn P w K (.Tuple elts kk tpos) (ItzM b K t u p q) [z, TI, TO, j, k] z (fun i h => ZObj b h z TI TO .none ∧ IsTupOf2 h TI (.ref j) (.ref k) ∧ (∃ x y, IsTupOf2 h TO x y) ∧ ItM t h j p i ∧ ItM u h k q i) where
  mem := by simp
  obj := fun i h st c hc => by
    obtain ⟨hz, hI, ⟨x, y, hO⟩, h1, h2⟩ := st
    rcases (show c = z ∨ c = TI ∨ c = TO ∨ c = j ∨ c = k by simpa using hc) with e | e | e | e | e <;> rw [e]
    · exact ⟨_, hz, fun v q => nomatch q⟩
    · exact ⟨_, hI, fun v q => nomatch q⟩
    · exact ⟨_, hO, fun v q => nomatch q⟩
    · exact itM_obj h1
    · exact itM_obj h2
  keep := fun i h h' st up => by
    obtain ⟨hz, hI, ⟨x, y, hO⟩, h1, h2⟩ := st
    exact ⟨up z (by simp) _ hz, up TI (by simp) _ hI, ⟨x, y, up TO (by simp) _ hO⟩, itM_keep h1 fun o e => up j (by simp) o e, itM_keep h2 fun o e => up k (by simp) o e⟩
  item := by
    intro X hP hw hK hc i pins s σ H E I hf st hg
    subst hP hw hK
    obtain ⟨hz, hI, ⟨x0, y0, hO⟩, h1, h2⟩ := st
    obtain ⟨xs, ys, x, y, sx, sy, hx, hy⟩ := hg
    obtain ⟨is1, v1, m1⟩ := seqM I sx
    obtain ⟨is2, v2, m2⟩ := seqM I sy
    obtain ⟨a1, g1, r1⟩ := v1.get hx
    obtain ⟨a2, g2, r2⟩ := v2.get hy
    have zl : z < s.heap.objs.size := Heap.lt_size hz
    have L1 : i < is1.toArray.size := by
      rcases Nat.lt_or_ge i is1.length with q | q
      · simpa using q
      · rw [List.getElem?_eq_none q] at g1; cases g1
    have L2 : i < is2.toArray.size := by
      rcases Nat.lt_or_ge i is2.length with q | q
      · simpa using q
      · rw [List.getElem?_eq_none q] at g2; cases g2
    refine zM_item S (drawsM (A := X.A.in1) (I.ok.hd hc) t j p pj is1.toArray) (drawsM (A := X.A.in1) (I.ok.hd hc) u k q qk is2.toArray) hz hI hO ⟨h1, m1⟩ ⟨h2, m2⟩ L1 L2 fun b1 b2 h' tk e1 e2 z' o' n1 n2 hT hsz up => ?_
    have e1 : is1.toArray[i]? = some b1 := e1
    have e2 : is2.toArray[i]? = some b2 := e2
    obtain rfl : a1 = b1 := Option.some.inj ((show is1.toArray[i]? = some a1 by simpa using g1).symm.trans e1)
    obtain rfl : a2 = b2 := Option.some.inj ((show is2.toArray[i]? = some a2 by simpa using g2).symm.trans e2)
    refine ⟨_, rfl, zM_go (s := { s with heap := h', toks := tk }) z' fun h'' z'' sb => ?_⟩
    have hT2 : h''.get? s.heap.objs.size = some { cls := .type "tuple", data := .seq #[a1, a2] } := (sb.2 _ (Nat.ne_of_gt zl)).trans hT
    have ob : ObjOk X.prog X.w (upd H s.heap.objs.size (.tup [x, y])) h'' s.heap.objs.size (.tup [x, y]) :=
      ⟨by show 2 ≤ sizeLine; decide, [a1, a2], .cons r1 (.cons r2 .nil), ⟨_, hT2, rfl, _, rfl⟩⟩
    have J : Inv X pins σ (upd H s.heap.objs.size (.tup [x, y])) { s with heap := h'', toks := tk } :=
      I.turnedNew (ch := [z, TI, TO, j, k]) (fun c o hb q => (sb.2 c (fun e => hb (by simp [e]))).trans (up c o (fun e => hb (by simp [e])) (fun e => hb (by simp [e])) (fun e => hb (by simp [e])) (fun e => hb (by simp [e])) q)) hf (Nat.le_refl _) ob
    refine ⟨.ref s.heap.objs.size, _, J, rfl, ⟨_, x, y, rfl, I.hok.fresh (Nat.le_refl _), rfl, fun l hl => by rw [sqM_inj I hl sx]; exact hx, fun l hl => by rw [sqM_inj I hl sy]; exact hy⟩, ⟨z'', ?_, ⟨a1, a2, ?_⟩, ?_, ?_⟩, fun c hc => ?_⟩
    · exact (sb.2 _ S.TIz).trans (up _ _ S.TIz S.TITO S.TIi1 S.TIi2 hI)
    · exact (sb.2 _ S.TOz).trans o'
    · exact itM_keep n1.1 fun o q => (sb.2 _ S.zi1.symm).trans q
    · exact itM_keep n2.1 fun o q => (sb.2 _ S.zi2.symm).trans q
    · have hlt : c < s.heap.objs.size := by
        rcases (show c = z ∨ c = TI ∨ c = TO ∨ c = j ∨ c = k by simpa using hc) with e | e | e | e | e <;> rw [e]
        · exact zl
        · exact Heap.lt_size hI
        · exact Heap.lt_size hO
        · obtain ⟨_, e1, _⟩ := itM_obj h1; exact Heap.lt_size e1
        · obtain ⟨_, e1, _⟩ := itM_obj h2; exact Heap.lt_size e1
      rw [upd_ne (Nat.ne_of_lt hlt)]
      exact (hf c hc).1
  done := by
    intro X hP hw hK hc i pins s σ H E I hf st hg
    subst hP hw hK
    obtain ⟨hz, hI, ⟨x0, y0, hO⟩, h1, h2⟩ := st
    obtain ⟨xs, ys, sx, sy, hend⟩ := hg
    obtain ⟨is1, v1, m1⟩ := seqM I sx
    obtain ⟨is2, v2, m2⟩ := seqM I sy
    have l1 : is1.toArray.size = xs.length := by simp [v1.length]
    have l2 : is2.toArray.size = ys.length := by simp [v2.length]
    have fin : ∀ (h' : Heap) (tk : Nat), (∀ c o, c ≠ z → c ≠ TO → c ≠ j → c ≠ k → s.heap.get? c = some o → h'.get? c = some o) → Inv X pins σ H { s with heap := h', toks := tk } := fun h' tk up =>
      I.turnedL (ch := [z, TI, TO, j, k]) (fun c o hb q => up c o (fun e => hb (by simp [e])) (fun e => hb (by simp [e])) (fun e => hb (by simp [e])) (fun e => hb (by simp [e])) q) hf
    cases b with
    | true =>
      obtain ⟨d1, d2⟩ := hend
      exact zipS_pyEnd (I.ok.hd hc) S (drawsE (A := X.A.in1) (I.ok.hd hc) t j p is1.toArray i (by omega)) (drawsE (A := X.A.in1) (I.ok.hd hc) u k q is2.toArray i (by omega)) hz hI hO ⟨rfl, h1, m1⟩ ⟨rfl, h2, m2⟩ (fun e => S.sep2_1 (by simp [e])) fun h' up => ⟨rfl, fin h' s.toks up⟩
    | false =>
      by_cases c1 : is1.toArray.size ≤ i
      · by_cases c2 : is2.toArray.size ≤ i
        · exact wpAny_pyNext_zipD2_end S (drawsE (A := X.A.in1) (I.ok.hd hc) t j p is1.toArray i c1) (drawsE (A := X.A.in1) (I.ok.hd hc) u k q is2.toArray i c2) hz hI hO ⟨rfl, h1, m1⟩ ⟨rfl, h2, m2⟩ (Nat.le_refl _) (Nat.le_refl _) (.inl rfl) fun h' tk up => ⟨rfl, fin h' tk up⟩
        · exact wpAny_pyNext_zipD2_end S (drawsE (A := X.A.in1) (I.ok.hd hc) t j p is1.toArray i c1) (drawsM (A := X.A.in1) (I.ok.hd hc) u k q qk is2.toArray) hz hI hO ⟨rfl, h1, m1⟩ ⟨h2, m2⟩ (Nat.le_refl _) (by omega) (.inl rfl) fun h' tk up => ⟨rfl, fin h' tk up⟩
      · have hend : xs.length ≤ i ∨ ys.length ≤ i := hend
        exact wpAny_pyNext_zipD2_end S (drawsM (A := X.A.in1) (I.ok.hd hc) t j p pj is1.toArray) (drawsE (A := X.A.in1) (I.ok.hd hc) u k q is2.toArray i (by omega)) hz hI hO ⟨h1, m1⟩ ⟨rfl, h2, m2⟩ (by omega) (Nat.le_refl _) (.inr rfl) fun h' tk up => ⟨rfl, fin h' tk up⟩
  self := fun A i s Q E st h => zM_iter st.1 h
end M3

namespace M3
open PySem PySem.Spec L2
open PyProof.Rows hiding St
def objM (t : Bool) (a : Addr) : Obj := match t with
  | true => { cls := .type "tuple_iterator", data := .fields #[.ref a, .int 0 0] }
  | false => { cls := .type "list_iterator", data := .fields #[.ref a, .int 0 0] }
theorem beginsM (t : Bool) (a : Addr) (items : Array Value) : Begins (.ref a) (objM t a) fun h => IsM t h a items := by
  cases t with
  | true => exact begins_tuple a items
  | false => exact begins_list a items
theorem itM_new {t : Bool} {h : Heap} {it a : Addr} (e : h.get? it = some (objM t a)) : ItM t h it a 0 := by
  cases t with
  | true => exact ⟨_, e, rfl, rfl⟩
  | false => exact ⟨_, e, rfl, rfl⟩
theorem isM_lt {t : Bool} {h : Heap} {a : Addr} {vs : Array Value} (x : IsM t h a vs) : a < h.objs.size := by
  cases t with
  | true => obtain ⟨o, e, _⟩ := x; exact Heap.lt_size e
  | false => obtain ⟨o, e, _⟩ := x; exact Heap.lt_size e
theorem sep5 {n p q : Nat} (hp : p < n) (hq : q < n) : ZipSep2 (n + 4) (n + 2) (n + 3) n (n + 1) [n, p] [n + 1, q] := by
  have nm : ∀ {x a b : Nat}, x ≠ a → x ≠ b → x ∉ ([a, b] : List Nat) := fun h1 h2 h => by
    rcases List.mem_cons.mp h with e | h
    · exact h1 e
    · exact h2 (List.mem_singleton.mp h)
  exact { TIz := (show (n + 2 : Nat) ≠ n + 4 by omega), TOz := (show (n + 3 : Nat) ≠ n + 4 by omega), TITO := (show (n + 2 : Nat) ≠ n + 3 by omega), TIi1 := (show (n + 2 : Nat) ≠ n by omega), mem1 := List.mem_cons_self, zf1 := nm (by omega) (by omega), Tf1 := nm (by omega) (by omega),
          TIi2 := (show (n + 2 : Nat) ≠ n + 1 by omega), mem2 := List.mem_cons_self, zf2 := nm (by omega) (by omega), Tf2 := nm (by omega) (by omega), sep1_2 := nm (by omega) (by omega), sep2_1 := nm (by omega) (by omega) }
def ZRes (b : Bool) (K : PySem.W.Frag) (vs : List V) (H : Hp) (R : It → Hp → Prop) : Prop := ∃ p q t u xs ys, vs = [.ref p, .ref q] ∧ SqM K t H p xs ∧ SqM K u H q ys ∧ R (ItzM b K t u p q) H
def iZipM (K : PySem.W.Frag) (ta : TA) : TI := fun σ H R => ta σ H fun vs H1 => ZRes false K vs H1 R
section
variable {X : Cx} {e e2 : Expr} {ta tk : TA} {p pos tpos : Pos} {elts : List Expr} {kk : Nat} {kws : List Keyword}
theorem fresh5 {pins : List (Addr × Obj)} {σ : L2.St} {H : Hp} {s : Shared} (I : Inv X pins σ H s) : ∀ c ∈ [s.heap.objs.size + 4, s.heap.objs.size + 2, s.heap.objs.size + 3, s.heap.objs.size, s.heap.objs.size + 1], FpOk X pins H c := fun c hc => by
  have hle : s.heap.objs.size ≤ c := by
    simp only [List.mem_cons, List.not_mem_nil, or_false] at hc
    rcases hc with z | z | z | z | z <;> rw [z] <;> omega
  exact I.fpOk hle (I.hok.fresh hle)
theorem zip_made {b : Bool} {pins : List (Addr × Obj)} {σ : L2.St} {H : Hp} {s : Shared} {a1 a2 : Addr} {t u : Bool} {xs ys : List V} {R : It → Hp → Prop} {h' : Heap} (I : Inv X pins σ H s) (s1 : SqM X.K t H a1 xs) (s2 : SqM X.K u H a2 ys) (q : R (ItzM b X.K t u a1 a2) H)
    (hz : ZObj b h' (s.heap.objs.size + 4) (s.heap.objs.size + 2) (s.heap.objs.size + 3) .none) (hT : IsTupOf2 h' (s.heap.objs.size + 2) (.ref s.heap.objs.size) (.ref (s.heap.objs.size + 1))) (hO : IsTupOf2 h' (s.heap.objs.size + 3) .none .none)
    (g1 : h'.get? s.heap.objs.size = some (objM t a1)) (g2 : h'.get? (s.heap.objs.size + 1) = some (objM u a2)) (up : ∀ c o, s.heap.get? c = some o → h'.get? c = some o) :
    wpAny (model X.prog X.w) X.A (pyIter (.ref (s.heap.objs.size + 4))) (PIE X pins σ (.Tuple elts kk tpos) R) X.xe { s with heap := h' } := by
  obtain ⟨is1, v1, m1⟩ := seqM I s1
  obtain ⟨is2, v2, m2⟩ := seqM I s2
  have l1 := isM_lt m1
  have l2 := isM_lt m2
  have J : Inv X pins σ H { s with heap := h' } := I.kept (t' := s.toks) up
  refine zM_iter (s := { s with heap := h' }) hz ?_
  exact ⟨s.heap.objs.size + 4, [s.heap.objs.size + 4, s.heap.objs.size + 2, s.heap.objs.size + 3, s.heap.objs.size, s.heap.objs.size + 1], _, _, H, rfl, J, turn_zipM b t u (sep5 l1 l2) (Nat.ne_of_lt l1) (Nat.ne_of_lt (Nat.lt_succ_of_lt l2)), ⟨hz, hT, ⟨_, _, hO⟩, itM_new g1, itM_new g2⟩, fresh5 I, q⟩
theorem pi_zipM (hg : Gl X "zip") (hm : X.mg "zip" = none) (ha : PA X [e, e2] ta) (hs : starEach [e, e2] X.env = (false, eval e X.env) :: starEach [e2] X.env := by rfl) (hpl : (backTo pos (starEach [e2] X.env)).any (·.1) = false := by rfl) :
    PI X (.Tuple elts kk tpos) (.Call (.Name "zip" p) [e, e2] [] pos) (iZipM X.K ta) := by
  refine ⟨fun pins s σ H R I h => ?_⟩
  refine Call_ (ld_blt I hg hm PyProof.Rows.boot_zip (PyProof.Rows.callWith_type1 (thn (ha.run pos pins s σ H _ I h) fun us s1 ⟨vs, H1, I1, r1, q1⟩ => ?_) hs hpl))
  obtain ⟨a1, a2, t, u, xs, ys, ex, w1, w2, q⟩ := q1
  subst ex
  cases r1 with
  | cons r rr =>
    cases rr with
    | cons r' rr =>
      cases rr
      cases r
      cases r'
      obtain ⟨is1, v1, m1⟩ := seqM I1 w1
      obtain ⟨is2, v2, m2⟩ := seqM I1 w2
      exact zip_begins2 (beginsM t a1 is1.toArray) (beginsM u a2 is2.toArray) m1 m2 fun h' hz hT hO g1 g2 _ up => zip_made (b := false) I1 w1 w2 q hz hT hO g1 g2 up
end
theorem walk_zipM {b : Bool} {K : PySem.W.Frag} {t u : Bool} {p q : Addr} {xs ys : List V} {n : Nat} (hn : match b with
    | true => n = xs.length ∧ n = ys.length
    | false => n = min xs.length ys.length) : Walk (ItzM b K t u p q) n (fun H => SqM K t H p xs ∧ SqM K u H q ys) (YPair (fun i => xs[i]?) (fun i => ys[i]?)) := by
  have hlt : ∀ i, i < n → i < xs.length ∧ i < ys.length := fun i hi => by
    cases b with
    | true => obtain ⟨h1, h2⟩ := hn; omega
    | false => have hn : n = min xs.length ys.length := hn; omega
  refine ⟨fun i _ hi z => ?_, fun _ z => ⟨xs, ys, z.1, z.2, ?_⟩, fun i H v H' _ z y => ?_⟩
  · obtain ⟨h1, h2⟩ := hlt i hi
    exact ⟨xs, ys, xs[i], ys[i], z.1, z.2, by simp [h1], by simp [h2]⟩
  · cases b with
    | true => obtain ⟨h1, h2⟩ := hn; exact ⟨by omega, by omega⟩
    | false => have hn : n = min xs.length ys.length := hn; show xs.length ≤ n ∨ ys.length ≤ n; omega
  · obtain ⟨T, x, y', h1, h2, h3, h4, h5⟩ := y
    exact ⟨T, x, y', h1, h2, h3, h4 xs z.1, h5 ys z.2⟩
end M3

namespace M3
open PySem PySem.Spec L2
open PyProof.Rows hiding St

/-! ### what is walked: instances -/
def charsD (x : Str) : List D := x.cps.toList.map fun c => .str ⟨#[c]⟩
def itemsD : D → Option (List D)
  | .list ds => some ds
  | .tuple ds => some ds
  | .str x => some (charsD x)
  | _ => none
def mIt (m : M D) : M (List D) := fun ε => (m ε).bind fun d ε1 => match itemsD d with
  | some ds => .ok ds ε1
  | none => .bad
def iAny (K : PySem.W.Frag) (te : TE) : TI := fun σ H R => iList K te σ H R ∨ iTup K te σ H R ∨ iStr te σ H R
theorem pi_any {X : Cx} {K : PySem.W.Frag} {tg e : Expr} {te : TE} (he : PE X e te) (hK : X.K = K) : PI X tg e (iAny K te) := by
  subst hK
  refine ⟨fun pins s σ H R I h => ?_⟩
  rcases h with h | h | h
  · exact (pi_list he).run pins s σ H R I h
  · exact (pi_tup he).run pins s σ H R I h
  · exact (pi_str he).run pins s σ H R I h
theorem itr_lst {C : Ct} {Hf : Hp} {a : Addr} {vs : List V} {ds : List D} (h : Hf a = some (.lst vs)) (q : DqAll C.K Hf vs ds) : ItR C Hf (Itl C.K a) ds := by
  refine ⟨fun H => SqL C.K H a vs, YAt vs, by rw [← q.length]; exact walk_list, fun H' s => SqL.of (s _ _ h), fun Hf' H' i x H'' hi s1 s2 y => ?_⟩
  obtain ⟨rfl, hx⟩ := y
  obtain ⟨d, h1, h2⟩ := q.get hx
  exact ⟨d, h1, .inl ⟨rfl, h2.mono s1⟩⟩
theorem itr_tup {C : Ct} {Hf : Hp} {a : Addr} {vs : List V} {ds : List D} (h : SqT C.K Hf a vs) (q : DqAll C.K Hf vs ds) : ItR C Hf (Itt C.K a) ds := by
  refine ⟨fun H => SqT C.K H a vs, YAt vs, by rw [← q.length]; exact walk_tup, fun H' s => Same.tup s h, fun Hf' H' i x H'' hi s1 s2 y => ?_⟩
  obtain ⟨rfl, hx⟩ := y
  obtain ⟨d, h1, h2⟩ := q.get hx
  exact ⟨d, h1, .inl ⟨rfl, h2.mono s1⟩⟩
theorem itr_str {C : Ct} {Hf : Hp} {z : Str} : ItR C Hf (Its z) (charsD z) := by
  refine ⟨fun _ => True, fun i H v H' => H' = H ∧ ∃ c, z.cps[i]? = some c ∧ v = .str ⟨#[c]⟩, by
    have e : (charsD z).length = z.cps.size := by unfold charsD; rw [List.length_map, Array.length_toList]
    rw [e]; exact walk_str, fun _ _ => trivial, fun Hf' H' i x H'' hi s1 s2 y => ?_⟩
  obtain ⟨rfl, c, hc, rfl⟩ := y
  refine ⟨.str ⟨#[c]⟩, ?_, .inl ⟨rfl, .str _⟩⟩
  unfold charsD
  rw [List.getElem?_map, Array.getElem?_toList, hc]
  rfl
theorem snd_it {C : Ct} {te : TE} {m : M D} (h : Snd C relD te m) : Snd C relI (iAny C.K te) (mIt m) := by
  intro Hf H w σ ε Q E P
  unfold mIt at P
  cases e : m ε with
  | bad => rw [e] at P; exact P.elim
  | err x ε1 =>
    rw [e] at P
    refine .inl (h Hf H w σ ε _ E ?_)
    rw [e]; exact P
  | ok d ε1 =>
    rw [e] at P
    simp only [R.bind] at P
    cases d with
    | list ds =>
      refine .inl (h Hf H w σ ε _ E ?_)
      rw [e]
      intro Hf1 H1 w1 S b E1 st r
      obtain ⟨r0, r1⟩ := r
      cases r1 with
      | lst h1 h2 => exact ⟨_, rfl, ⟨_, SqL.of (E1.sub _ _ h1)⟩, P Hf1 H1 w1 (fun _ => False) _ E1 (st.out fun x z => z.elim .inl False.elim) ⟨fun _ z => z, itr_lst h1 h2⟩⟩
    | tuple ds =>
      refine .inr (.inl (h Hf H w σ ε _ E ?_))
      rw [e]
      intro Hf1 H1 w1 S b E1 st r
      obtain ⟨r0, r1⟩ := r
      cases r1 with
      | tup h1 h2 => exact ⟨_, rfl, ⟨_, Same.tup E1.sub h1⟩, P Hf1 H1 w1 (fun _ => False) _ E1 (st.out fun x z => z.elim .inl False.elim) ⟨fun _ z => z, itr_tup h1 h2⟩⟩
    | str z =>
      refine .inr (.inr (h Hf H w σ ε _ E ?_))
      rw [e]
      intro Hf1 H1 w1 S b E1 st r
      obtain ⟨r0, r1⟩ := r
      cases r1
      exact ⟨z, rfl, P Hf1 H1 w1 (fun _ => False) _ E1 (st.out fun x z => z.elim .inl False.elim) ⟨fun _ z => z, itr_str⟩⟩
    | _ => exact P.elim
theorem mi_any {X : Cx} {C : Ct} {tg e : Expr} {te : TE} {m : M D} (h : MD X C e te m) : MI X C tg e (iAny C.K te) (mIt m) := ⟨pi_any h.pe h.hK, snd_it h.sn, h.hK⟩

/-- range -/
def rngD (lo : Int) (n : Nat) : List D := (List.range n).map fun (k : Nat) => PyData.int (lo + (k : Int))
def mRng1 (ms : M (List RV)) : M (List D) := fun ε => (ms ε).bind fun rs ε1 => match viewAll ε1 rs with
  | some [.int j] => if -(2 ^ 62) ≤ j ∧ j < 2 ^ 62 then .ok (rngD 0 j.toNat) ε1 else .bad
  | _ => .bad
def mRng2 (ms : M (List RV)) : M (List D) := fun ε => (ms ε).bind fun rs ε1 => match viewAll ε1 rs with
  | some [.int i, .int j] => if -(2 ^ 62) ≤ i ∧ i < 2 ^ 62 ∧ -(2 ^ 62) ≤ j ∧ j < 2 ^ 62 then .ok (rngD i (j - i).toNat) ε1 else .bad
  | _ => .bad
theorem itr_rng {C : Ct} {Hf : Hp} {lo : Int} {n : Nat} : ItR C Hf (Itr lo n) (rngD lo n) := by
  refine ⟨fun _ => True, YFn fun i => .int (lo + i), by
    have e : (rngD lo n).length = n := by unfold rngD; rw [List.length_map, List.length_range]
    rw [e]; exact walk_range, fun _ _ => trivial, fun Hf' H' i x H'' hi s1 s2 y => ?_⟩
  obtain ⟨rfl, rfl⟩ := y
  refine ⟨.int (lo + i), ?_, .inl ⟨rfl, .int _⟩⟩
  have hi' : i < n := by unfold rngD at hi; rw [List.length_map, List.length_range] at hi; exact hi
  unfold rngD
  rw [List.getElem?_map, List.getElem?_range hi']
  rfl
theorem VwAll.one {C : Ct} {Hf H : Hp} {vs : List V} {d : D} (h : VwAll C Hf H vs [d]) : ∃ v, vs = [v] ∧ Vw C Hf H v d := by
  cases h with
  | cons a b => cases b; exact ⟨_, rfl, a⟩
theorem VwAll.two {C : Ct} {Hf H : Hp} {vs : List V} {d e : D} (h : VwAll C Hf H vs [d, e]) : ∃ v u, vs = [v, u] ∧ Vw C Hf H v d ∧ Vw C Hf H u e := by
  cases h with
  | cons a b =>
    obtain ⟨u, rfl, q⟩ := b.one
    exact ⟨_, u, rfl, a, q⟩
theorem snd_rng1 {C : Ct} {tr : TA} {ms : M (List RV)} (h : Snd C relOs tr ms) : Snd C relI (iRng1 tr) (mRng1 ms) := by
  refine Snd.bind (Rel1 := relOs) (t1 := tr) (t2 := fun vs (σ : L2.St) H1 (R : It → Hp → Prop) => ∃ j : Int, vs = [V.int j] ∧ -(2 ^ 62) ≤ j ∧ j < 2 ^ 62 ∧ R (Itr 0 j.toNat) H1) h fun Hf H w σ ε S vs rs Q E rb P => ?_
  split at P
  · rename_i j e
    split at P
    · rename_i hj
      obtain ⟨v, rfl, q⟩ := (rb.2.view E e).one
      cases q
      exact ⟨j, rfl, hj.1, hj.2, P.here E ⟨fun _ z => z, itr_rng⟩⟩
    · exact P.elim
  · exact P.elim
theorem snd_rng2 {C : Ct} {tr : TA} {ms : M (List RV)} (h : Snd C relOs tr ms) : Snd C relI (iRng2 tr) (mRng2 ms) := by
  refine Snd.bind (Rel1 := relOs) (t1 := tr) (t2 := fun vs (σ : L2.St) H1 (R : It → Hp → Prop) => ∃ i j : Int, vs = [V.int i, V.int j] ∧ (-(2 ^ 62) ≤ i ∧ i < 2 ^ 62 ∧ -(2 ^ 62) ≤ j ∧ j < 2 ^ 62) ∧ R (Itr i (j - i).toNat) H1) h fun Hf H w σ ε S vs rs Q E rb P => ?_
  split at P
  · rename_i i j e
    split at P
    · rename_i hj
      obtain ⟨v, u, rfl, q1, q2⟩ := (rb.2.view E e).two
      cases q1
      cases q2
      exact ⟨i, j, rfl, hj, P.here E ⟨fun _ z => z, itr_rng⟩⟩
    · exact P.elim
  · exact P.elim
theorem mi_rng1 {X : Cx} {C : Ct} {tg a : Expr} {p pos : Pos} {tr : TA} {ms : M (List RV)} (hm : X.mg "range" = none) (h : MAs X C [a] tr ms) (hg : Gl X "range" := by rfl) (hs : starEach [a] X.env = [(false, eval a X.env)] := by rfl) : MI X C tg (.Call (.Name "range" p) [a] [] pos) (iRng1 tr) (mRng1 ms) := ⟨pi_range1 hg hm h.pa hs, snd_rng1 h.sn, h.hK⟩
theorem mi_rng2 {X : Cx} {C : Ct} {tg a b : Expr} {p pos : Pos} {tr : TA} {ms : M (List RV)} (hm : X.mg "range" = none) (h : MAs X C [a, b] tr ms) (hg : Gl X "range" := by rfl) (hs : starEach [a, b] X.env = [(false, eval a X.env), (false, eval b X.env)] := by rfl) (hs2 : starEach [b] X.env = [(false, eval b X.env)] := by rfl) :
    MI X C tg (.Call (.Name "range" p) [a, b] [] pos) (iRng2 tr) (mRng2 ms) := ⟨pi_range2 hg hm h.pa hs hs2, snd_rng2 h.sn, h.hK⟩

/-- enumerate(list), zip(list, list), zip(tuple, tuple) -/
def enumD : Nat → List D → List D
  | _, [] => []
  | i, d :: ds => .tuple [.int i, d] :: enumD (i + 1) ds
def mEnum (ms : M (List D)) : M (List D) := fun ε => (ms ε).bind fun rs ε1 => match rs with
  | [.list ds] => .ok (enumD 0 ds) ε1
  | [.tuple ds] => .ok (enumD 0 ds) ε1
  | _ => .bad
def zipD (a b : List D) : List D := (a.zip b).map fun p => .tuple [p.1, p.2]
def seqD : D → Option (List D)
  | .list ds => some ds
  | .tuple ds => some ds
  | _ => none
def mZip (ms : M (List D)) : M (List D) := fun ε => (ms ε).bind fun rs ε1 => match rs with
  | [d, e] => (match seqD d, seqD e with
    | some a, some b => .ok (zipD a b) ε1
    | _, _ => .bad)
  | _ => .bad
theorem enumD_len : ∀ (i : Nat) (ds : List D), (enumD i ds).length = ds.length
  | _, [] => rfl
  | i, d :: ds => congrArg Nat.succ (enumD_len (i + 1) ds)
theorem enumD_get : ∀ (i j : Nat) (ds : List D), (enumD i ds)[j]? = ds[j]?.map fun d => .tuple [.int (i + j : Nat), d]
  | _, _, [] => by simp [enumD]
  | i, 0, d :: ds => by simp [enumD]
  | i, j + 1, d :: ds => by
    show (enumD (i + 1) ds)[j]? = _
    rw [enumD_get (i + 1) j ds]
    have : i + 1 + j = i + (j + 1) := by omega
    rw [this]; simp
theorem DqAll.one {K : PySem.W.Frag} {H : Hp} {vs : List V} {d : D} (h : DqAll K H vs [d]) : ∃ v, vs = [v] ∧ Dq K H v d := by
  cases h with
  | cons a b => cases b; exact ⟨_, rfl, a⟩
theorem DqAll.two {K : PySem.W.Frag} {H : Hp} {vs : List V} {d e : D} (h : DqAll K H vs [d, e]) : ∃ v u, vs = [v, u] ∧ Dq K H v d ∧ Dq K H u e := by
  cases h with
  | cons a b =>
    obtain ⟨u, rfl, q⟩ := b.one
    exact ⟨_, u, rfl, a, q⟩
theorem snd_enum {C : Ct} {tr : TA} {ms : M (List D)} (h : Snd C relDs tr ms) : Snd C relI (iEnumA C.K tr) (mEnum ms) := by
  refine Snd.bind (Rel1 := relDs) (t1 := tr) (t2 := fun vs (σ : L2.St) H1 (R : It → Hp → Prop) => ∃ a xs, vs = [V.ref a] ∧ ((SqL C.K H1 a xs ∧ R (Ite C.K a) H1) ∨ (SqT C.K H1 a xs ∧ R (IteT C.K a) H1))) h fun Hf H w σ ε S vs rs Q E rb P => ?_
  have fin : ∀ {xs : List V} {ds : List D}, DqAll C.K Hf xs ds → ∀ (Hf' H' : Hp) (i : Nat) (x : V) (H'' : Hp), Same Hf Hf' → Same Hf' H' → YPair (fun i => some (.int (i : Nat))) (fun i => xs[i]?) i H' x H'' → ∃ d, (enumD 0 ds)[i]? = some d ∧ ((H'' = H' ∧ Dq C.K Hf' x d) ∨ ∃ p o, H' p = none ∧ H'' = upd H' p o ∧ Dq C.K (upd Hf' p o) x d) := by
    intro xs ds g Hf' H' i x H'' s1 s2 y
    obtain ⟨T, x1, x2, rfl, hT, rfl, e1, e2⟩ := y
    obtain ⟨d, g1, g2⟩ := g.get e2
    refine ⟨.tuple [.int (0 + i : Nat), d], by rw [enumD_get, g1]; rfl, .inr ⟨T, _, hT, rfl, ?_⟩⟩
    cases e1
    have sm : Same Hf' (upd Hf' T (.tup [.int (i : Nat), x2])) := same_upd (same_none s2 hT)
    rw [Nat.zero_add]
    exact .tup (SqT.of upd_same) (.cons (.int _) (.cons (g2.mono (s1.trans sm)) .nil))
  split at P
  · obtain ⟨v, rfl, q⟩ := rb.2.one
    cases q with
    | lst h1 h2 =>
      rename_i a us
      exact ⟨a, us, rfl, .inl ⟨SqL.of (E.sub _ _ h1), P.here E ⟨fun _ z => z, ⟨fun H => SqL C.K H a us, _, by rw [enumD_len, ← h2.length]; exact walk_enum, fun H' s => SqL.of (s _ _ h1), fun Hf' H' i x H'' hi s1 s2 y => fin h2 Hf' H' i x H'' s1 s2 y⟩⟩⟩⟩
  · obtain ⟨v, rfl, q⟩ := rb.2.one
    cases q with
    | tup h1 h2 =>
      rename_i a us
      exact ⟨a, us, rfl, .inr ⟨Same.tup E.sub h1, P.here E ⟨fun _ z => z, ⟨fun H => SqT C.K H a us, _, by rw [enumD_len, ← h2.length]; exact walk_enumT, fun H' s => Same.tup s h1, fun Hf' H' i x H'' hi s1 s2 y => fin h2 Hf' H' i x H'' s1 s2 y⟩⟩⟩⟩
  · exact P.elim
theorem zipD_get (a b : List D) (i : Nat) (x y : D) (h1 : a[i]? = some x) (h2 : b[i]? = some y) : (zipD a b)[i]? = some (.tuple [x, y]) := by
  unfold zipD
  have e : (a.zip b)[i]? = some (x, y) := List.getElem?_zip_eq_some.mpr ⟨h1, h2⟩
  rw [List.getElem?_map, e]
  rfl
theorem zipD_len (a b : List D) : (zipD a b).length = min a.length b.length := by unfold zipD; rw [List.length_map, List.length_zip]
def FzM (K : PySem.W.Frag) (t : Bool) (Hf : Hp) (a : Addr) (us : List V) : Prop := match t with
  | true => SqT K Hf a us
  | false => Hf a = some (.lst us)
theorem FzM.mono {K : PySem.W.Frag} {t : Bool} {Hf H' : Hp} {a : Addr} {us : List V} (h : FzM K t Hf a us) (s : Same Hf H') : FzM K t H' a us := by
  cases t with
  | true => exact Same.tup s h
  | false => exact s _ _ h
theorem FzM.sq {K : PySem.W.Frag} {t : Bool} {Hf : Hp} {a : Addr} {us : List V} (h : FzM K t Hf a us) : SqM K t Hf a us := by
  cases t with
  | true => exact h
  | false => exact SqL.of h
theorem seqD_v {K : PySem.W.Frag} {Hf : Hp} {v : V} {d : D} {ds : List D} (h : Dq K Hf v d) (e : seqD d = some ds) : ∃ a t us, v = .ref a ∧ FzM K t Hf a us ∧ DqAll K Hf us ds := by
  cases h with
  | lst h1 h2 => cases e; exact ⟨_, false, _, rfl, h1, h2⟩
  | tup h1 h2 => cases e; exact ⟨_, true, _, rfl, h1, h2⟩
  | _ => cases e
theorem zip_fin {K : PySem.W.Frag} {Hf : Hp} {xs ys : List V} {ds es : List D} (g1 : DqAll K Hf xs ds) (g2 : DqAll K Hf ys es) (Hf' H' : Hp) (i : Nat) (x : V) (H'' : Hp) (s1 : Same Hf Hf') (s2 : Same Hf' H') (y : YPair (fun i => xs[i]?) (fun i => ys[i]?) i H' x H'') :
    ∃ d, (zipD ds es)[i]? = some d ∧ ((H'' = H' ∧ Dq K Hf' x d) ∨ ∃ p o, H' p = none ∧ H'' = upd H' p o ∧ Dq K (upd Hf' p o) x d) := by
  obtain ⟨T, x1, x2, rfl, hT, rfl, e1, e2⟩ := y
  obtain ⟨d1, q1, q2⟩ := g1.get e1
  obtain ⟨d2, q3, q4⟩ := g2.get e2
  have sm : Same Hf' (upd Hf' T (.tup [x1, x2])) := same_upd (same_none s2 hT)
  exact ⟨_, zipD_get _ _ _ _ _ q1 q3, .inr ⟨T, _, hT, rfl, .tup (SqT.of upd_same) (.cons (q2.mono (s1.trans sm)) (.cons (q4.mono (s1.trans sm)) .nil))⟩⟩
theorem snd_zip {C : Ct} {tr : TA} {ms : M (List D)} (h : Snd C relDs tr ms) : Snd C relI (iZipM C.K tr) (mZip ms) := by
  refine Snd.bind (Rel1 := relDs) (t1 := tr) (t2 := fun vs (σ : L2.St) H1 (R : It → Hp → Prop) => ZRes false C.K vs H1 R) h fun Hf H w σ ε S vs rs Q E rb P => ?_
  split at P
  · rename_i d e
    split at P
    · rename_i a b ea eb
      obtain ⟨v, u, rfl, q1, q2⟩ := rb.2.two
      obtain ⟨p, t, us, rfl, f1, g1⟩ := seqD_v q1 ea
      obtain ⟨q, t', ws, rfl, f2, g2⟩ := seqD_v q2 eb
      exact ⟨p, q, t, t', us, ws, rfl, (f1.mono E.sub).sq, (f2.mono E.sub).sq, P.here E ⟨fun _ z => z, ⟨fun H => SqM C.K t H p us ∧ SqM C.K t' H q ws, _, walk_zipM (b := false) (by show _ = _; rw [zipD_len, g1.length, g2.length]), fun H' s => ⟨(f1.mono s).sq, (f2.mono s).sq⟩, fun Hf' H' i x H'' hi s1 s2 y => zip_fin g1 g2 Hf' H' i x H'' s1 s2 y⟩⟩⟩
    · exact P.elim
  · exact P.elim
theorem mi_enum {X : Cx} {C : Ct} {e : Expr} {p pos tpos : Pos} {elts : List Expr} {kk : Nat} {tr : TA} {ms : M (List D)} (hm : X.mg "enumerate" = none) (h : MDs X C [e] tr ms) (hg : Gl X "enumerate" := by rfl) (hs : starEach [e] X.env = [(false, eval e X.env)] := by rfl) :
    MI X C (.Tuple elts kk tpos) (.Call (.Name "enumerate" p) [e] [] pos) (iEnumA C.K tr) (mEnum ms) := ⟨by have q := pi_enumA (tpos := tpos) (pos := pos) (p := p) (elts := elts) (kk := kk) hg hm h.pa hs; rw [h.hK] at q; exact q, snd_enum h.sn, h.hK⟩
theorem mi_zip {X : Cx} {C : Ct} {e e2 : Expr} {p pos tpos : Pos} {elts : List Expr} {kk : Nat} {tr : TA} {ms : M (List D)} (hm : X.mg "zip" = none) (h : MDs X C [e, e2] tr ms) (hg : Gl X "zip" := by rfl) (hs : starEach [e, e2] X.env = (false, eval e X.env) :: starEach [e2] X.env := by rfl)
    (hpl : (backTo pos (starEach [e2] X.env)).any (·.1) = false := by rfl) : MI X C (.Tuple elts kk tpos) (.Call (.Name "zip" p) [e, e2] [] pos) (iZipM C.K tr) (mZip ms) := ⟨by have q := pi_zipM (tpos := tpos) (pos := pos) (p := p) (elts := elts) (kk := kk) hg hm h.pa hs hpl; rw [h.hK] at q; exact q, snd_zip h.sn, h.hK⟩
/-! ### targets -/
section
variable {X : Cx} {C : Ct} {vs : List Nat} {pos : Pos}
theorem mg_nm (i : Nat) {x : Str} (hN : X.N.Nodup) (hi : X.N[i]? = some x := by rfl) (hx : Loc X.env.scope x := by first | exact Or.inl rfl | exact Or.inr rfl) (hf : X.fn x = true ∨ X.env.scope.names.lookup x = some .local := by first | exact .inl rfl | exact .inr rfl)
    (ho : C.own.contains i = false := by rfl) (hv : vs.contains i = true := by rfl) (hK : X.K = C.K := by rfl) : MG X C vs (.Name x pos) (gName i) (.nm i) := ⟨pg_name hN hi hx hf, pat_nm ho hv, hK⟩
theorem mgs_nil (hK : X.K = C.K := by rfl) : MGs X C vs [] gNil [] := ⟨pgs_nil, pats_nil, hK⟩
theorem mgs_cons {e : Expr} {es : List Expr} {g : TG} {gs : TGs} {p : Pat} {ps : List Pat} (h1 : MG X C vs e g p) (h2 : MGs X C vs es gs ps) (hs : (assignEach (e :: es) X.env).map (·.2) = assign e X.env :: (assignEach es X.env).map (·.2) := by rfl) : MGs X C vs (e :: es) (gCons g gs) (p :: ps) := ⟨pgs_cons h1.pg h2.pg hs, pats_cons h1.sn h2.sn, h1.hK⟩
theorem mg_tp {es : List Expr} {k n : Nat} {gs : TGs} {ps : List Pat} (h : MGs X C vs es gs ps) (hn : ps.length = n := by rfl) (hc : X.calm = true := by rfl)
    (hl : (assignEach es X.env).length = n := by rfl) (hst : (assignEach es X.env).findIdx? (·.1) = none := by rfl) : MG X C vs (.Tuple es k pos) (gSeq C.K n gs) (.tp ps) := ⟨by have q := pg_seq (k := k) (pos := pos) hc h.pg hl hst; rw [h.hK] at q; exact q, pat_tp h.sn hn, h.hK⟩
end

/-! ### statements -/
section
variable {X : Cx} {C : Ct} {a b c e : Expr} {te ta tb : TE} {m m1 m2 : M RV} {md : M D} {t1 t2 : TS} {s1 s2 : Sm} {pos : Pos} {st : Stmt} {rest sa sb : List Stmt} {tt : TT} {mc : M Bool}
theorem mss_nil : MSs X C [] tNext sNext := ⟨pss_nil, snds_next⟩
theorem mss_cons (h1 : MS X C st t1 s1) (h2 : MSs X C rest t2 s2) : MSs X C (st :: rest) (tSeq t1 t2) (sSeq s1 s2) := ⟨pss_cons h1.ps h2.ps, snds_seq h1.sn h2.sn⟩
theorem mss_one (h1 : MS X C st t1 s1) : MSs X C [st] t1 s1 := ⟨pss_one h1.ps, h1.sn⟩
theorem ms_expr (h : ME X C e te m) (hs : swapsWith e none pos.line X.env = pure false := by rfl) : MS X C (.Expr e pos) (tDrop te) (sExpr m) := ⟨ps_expr h.pe hs, snds_expr h.sn⟩
theorem ms_ret (h : ME X C e te m) : MS X C (.Return (some e) pos) (tRet te) (sRet m) := ⟨ps_ret h.pe, snds_ret h.sn⟩
theorem ms_if (hc : MT X C c tt mc) (h1 : MSs X C sa t1 s1) (h2 : MSs X C sb t2 s2) : MS X C (.If c sa sb pos) (tIfS tt t1 t2) (sIf mc s1 s2) := ⟨ps_if hc.pt h1.ps h2.ps, snds_if hc.sn h1.sn h2.sn⟩
theorem ms_set (i : Nat) {x : Str} {pos' : Pos} (hN : X.N.Nodup) (h : ME X C e te m) (hi : X.N[i]? = some x := by rfl) (hx : Loc X.env.scope x := by first | exact Or.inl rfl | exact Or.inr rfl) (hs : swapsWith e (some (.Name x pos')) pos.line X.env = pure false := by rfl)
    (hf : X.fn x = true ∨ X.env.scope.names.lookup x = some .local := by first | exact .inl rfl | exact .inr rfl) (ho : C.own.contains i = false := by rfl) : MS X C (.Assign [.Name x pos'] e pos) (tAsg te (gName i)) (sSet i m) := ⟨ps_set hN hi hx h.pe hs hf, snds_set ho h.sn⟩
/-- x = [.. for ..] -/
theorem ms_setLc (i : Nat) {y : Str} {py pos' : Pos} {elt tg iter : Expr} {ifs : List Expr} {scope : Scope} {own : List (Str × Nat)} {wi : TI} {g : TG} {te' : TE} {mi : M (List D)} {p : Pat} {mm : M D} (vs : List Nat) (ok : BlkOk X.N X.env.scope scope own) (hN : X.N.Nodup) (hi : MI X C tg iter wi mi)
    (hv : ∀ i, vs.contains i = true → C.own.contains i = false)
    (hg : ∀ (s : Shared) (H : Hp) (A : Addr) (cl : List (Str × Addr)) (fp : List Addr), MG (X.blk s H scope (compEnvC scope cl A X.env) fp) ⟨C.K, C.own, C.vs, noW⟩ vs tg g p)
    (ht : ∀ (s : Shared) (H : Hp) (A : Addr) (cl : List (Str × Addr)) (fp : List Addr), PTs (X.blk s H scope (compEnvC scope cl A X.env) fp) ifs tt ∧ Snd ⟨C.K, C.own, C.vs, noW⟩ relB tt mc)
    (he : ∀ (s : Shared) (H : Hp) (A : Addr) (cl : List (Str × Addr)) (fp : List Addr), MD (X.blk s H scope (compEnvC scope cl A X.env) fp) ⟨C.K, C.own, C.vs, noW⟩ elt te' mm)
    (hy : X.N[i]? = some y := by rfl) (hyl : X.env.scope.names.lookup y = some .local := by rfl) (hsw : swapsWith (.ListComp elt [⟨tg, iter, ifs, 0⟩] scope pos') (some (.Name y py)) pos.line X.env = pure true := by exact sw_true rfl rfl rfl rfl)
    (hvs : own.map (·.2) = vs := by rfl) (hc : X.calm = true := by rfl) (hs : ∀ x, foldedSetIterable iter X.env x = pure x := by intro _; rfl) (ho : C.own.contains i = false := by rfl) : MS X C (.Assign [.Name y py] (.ListComp elt [⟨tg, iter, ifs, 0⟩] scope pos') pos) (tAsg (tLc wi g tt te' vs) (gName i)) (sSet i (mLc mi p vs mc mm)) := by
  have gs := (hg X.s_0 X.H_0 0 [] []).sn
  refine ⟨?_, snds_set ho (snd_lc (C' := ⟨C.K, C.own, C.vs, noW⟩) hv rfl rfl rfl hi.sn gs (ht X.s_0 X.H_0 0 [] []).2 (he X.s_0 X.H_0 0 [] []).sn)⟩
  have q := ps_setLc (py := py) (spos := pos) (pos := pos') hc hN hy hyl hsw hi.pi ok (fun s H A cl fp => (hg s H A cl fp).pg) (fun s H A cl fp => (ht s H A cl fp).1) (fun s H A cl fp => (he s H A cl fp).pe) hs
  rw [hvs] at q
  exact q
theorem ms_for {tg iter : Expr} {body : List Stmt} {wi : TI} {g : TG} {mi : M (List D)} {p : Pat} (vs : List Nat) (hp : PassesOwn (model X.prog X.w) X.A X.env X.xe) (hi : MI X C tg iter wi mi) (hg : MG X C vs tg g p) (hb : MSs X C body t1 s1) (hc : X.calm = true := by rfl)
    (hs : ∀ x, foldedSetIterable iter X.env x = pure x := by intro _; rfl) : MS X C (.For tg iter body [] pos) (tFor wi g t1) (sFor mi p s1) := ⟨ps_for hp hc hi.pi hg.pg hb.ps hs, snds_for hi.sn hg.sn hb.sn⟩
/-- a, b = e -/
def sUnp (m : M D) (p : Pat) : Sm := fun ε => (m ε).toS fun d ε1 => match bindP p d ε1 with
  | some ε2 => .nx ε2
  | none => .bad
theorem ms_unp {tg : Expr} {g : TG} {p : Pat} (vs : List Nat) (h : MD X C e te md) (hg : MG X C vs tg g p) (hs : swapsWithSole [tg] e pos.line X.env = pure false := by rfl) (hw : swappedStores [tg] e X.env = pure none := by rfl)
    (h1 : (assignEach [tg] X.env).map (·.2) = [assign tg X.env] := by rfl) : MS X C (.Assign [tg] e pos) (tAsg te g) (sUnp md p) := by
  refine ⟨ps_asg h.pe hg.pg hs hw h1, fun Hf H w σ ε D E P => ?_⟩
  refine h.sn.toS E P fun d ε1 Hf1 H1 w1 S b _ E1 st1 r P1 => ?_
  split at P1
  · rename_i ε2 e2
    have P2 := PostS.step st1.noS P1
    exact hg.sn Hf1 H1 w1 σ ε1 b d ε2 _ E1 r.2 e2 fun σ' w' E' st' _ => P2 Hf1 H1 w' σ' E' st'
  · exact P1.elim
theorem ms_append {x : Str} {px apos cpos : Pos} (i : Nat) (ha : MDs X C [e] (tCons ta tNil) (dsCons md dsNil)) (h : MD X C e ta md) (hN : X.N[i]? = some x := by rfl) (hv : Vis X.env.scope x := by first | exact Or.inl rfl | exact Or.inr (Or.inl rfl) | exact Or.inr (Or.inr rfl)) (hd : (x == ("__debug__" : Str)) = false := by decide)
    (hcd : (x == ("__classdict__" : Str)) = false := by decide)
    (hfew : ((backTo cpos (starEach (e :: []) X.env)).all (fun x => !x.1) && (backToKw cpos (keywordEach [] X.env)).all (fun x => x.1.isSome)
      && decide ((e :: []).length + ([] : List Keyword).length + (if ([] : List Keyword).isEmpty then 0 else 1) < 30)) = true := by rfl)
    (hline : (apos.endLine == cpos.line) = true := by rfl) (hst : starEach (e :: []) X.env = (false, eval e X.env) :: starEach [] X.env := by rfl) (hplain : (backTo cpos (starEach [] X.env)).any (·.1) = false := by rfl)
    (hs : swapsWith (.Call (.Attribute (.Name x px) "append" apos) [e] [] cpos) none pos.line X.env = pure false := by rfl) :
    MS X C (.Expr (.Call (.Attribute (.Name x px) "append" apos) [e] [] cpos) pos) (tDrop (tBM C.K "list" rAppend (tVar i) (tCons ta tNil))) (sAppend i md) := by
  refine ⟨?_, snds_append h.sn⟩
  have q := pe_bm (apos := apos) (cpos := cpos) PySem.F.plainAttrs_list PySem.F.slot_list_append PySem.F.type_list_append mt_append (pe_var (pos := px) hN hv hd hcd) ha.pa rfl hfew hline hst hplain
  rw [h.hK] at q
  exact ps_expr q hs
theorem ms_setItem {x : Str} {px tpos : Pos} {k : Expr} {tk : TE} {mk : M RV} (i : Nat) (h : MD X C e te md) (hk : MO X C k tk mk) (hN : X.N[i]? = some x := by rfl) (hv : Vis X.env.scope x := by first | exact Or.inl rfl | exact Or.inr (Or.inl rfl) | exact Or.inr (Or.inr rfl)) (hd : (x == ("__debug__" : Str)) = false := by decide)
    (hcd : (x == ("__classdict__" : Str)) = false := by decide)
    (ha : ∀ v, assign (.Subscript (.Name x px) k tpos) X.env v = (do
      let ov ← holding [v] (eval (.Name x px) X.env)
      let iv ← holding [v, ov] (eval k X.env)
      standAt tpos
      holding [v, ov, iv] (setItem ov iv v)
      release [v, ov, iv] []) := by intro _; rfl)
    (hs : swapsWithSole [.Subscript (.Name x px) k tpos] e pos.line X.env = pure false := by rfl) (hw : swappedStores [.Subscript (.Name x px) k tpos] e X.env = pure none := by rfl)
    (h1 : (assignEach [.Subscript (.Name x px) k tpos] X.env).map (·.2) = [assign (.Subscript (.Name x px) k tpos) X.env] := by rfl) :
    MS X C (.Assign [.Subscript (.Name x px) k tpos] e pos) (tAsg te (gSub (tVar i) tk rSetL)) (sSetItem i mk md) :=
  ⟨ps_asg h.pe (pg_sub (pe_var hN hv hd hcd) hk.pe set_list ha) hs hw h1, snds_setItem h.sn hk.sn⟩
end
end M3

namespace M3
open PySem PySem.Spec L2
open PyProof.Rows hiding St

/-! ### set(list of whole numbers and texts), and how many stand in it -/
def memK (k : Key) (l : List Key) : Bool := l.any fun x => decide (x = k)
def stK (acc : List Key) (v : Key) : List Key := if memK v acc = true then acc else acc ++ [v]
def ddK (ks : List Key) : List Key := ks.foldl stK []
section
variable {prog : Program} {w : World} {A : Around} {R : Result → Shared → Prop} {I : Addr} {fp wr : List Addr} {G : Array GenState → Array GenState → Prop} {n : Nat} {P : Nat → Value → Prop} {St : Nat → Shared → Prop}
end
section
open PySem.F
variable {prog : Program} {w : World} {A : Around} {E : Value → Shared → Prop} {s : Shared}
end
end M3

namespace M3
open PySem PySem.Spec L2
open PyProof.Rows hiding St

section
variable {C : Ct} {Hf H : Hp} {v : V}
theorem Vw.int {i : Int} (h : Vw C Hf H v (.int i)) : v = .int i := by cases (show Dq C.K Hf v (.int i) from h); rfl
theorem Vw.str {i : Str} (h : Vw C Hf H v (.str i)) : v = .str i := by cases (show Dq C.K Hf v (.str i) from h); rfl
theorem Vw.bl {i : Bool} (h : Vw C Hf H v (.bool i)) : v = .bl i := by cases (show Dq C.K Hf v (.bool i) from h); rfl
theorem Vw.lst {ds : List D} (h : Vw C Hf H v (.list ds)) : ∃ p vs, v = .ref p ∧ H p = some (.lst vs) ∧ DqAll C.K Hf vs ds := h
theorem Vw.tup {ds : List D} (h : Vw C Hf H v (.tuple ds)) (s : Same Hf H) : ∃ p vs, v = .ref p ∧ SqT C.K H p vs ∧ DqAll C.K Hf vs ds ∧ Dq C.K Hf v (.tuple ds) := by
  have q : Dq C.K Hf v (.tuple ds) := h
  cases q with
  | tup h1 h2 => exact ⟨_, _, rfl, Same.tup s h1, h2, .tup h1 h2⟩
end

/-! ### unions -/
def rOr (r1 r2 : R2) : R2 := fun x y H Q => r1 x y H Q ∨ r2 x y H Q
theorem opr_or {X : Cx} {f : Value → Value → Sem Value} {r1 r2 : R2} (h1 : OpR X f r1) (h2 : OpR X f r2) : OpR X f (rOr r1 r2) := by
  intro pins s σ H x y v u Q I rx ry h
  rcases h with h | h
  · exact h1 pins s σ H x y v u Q I rx ry h
  · exact h2 pins s σ H x y v u Q I rx ry h
def rOrC (r1 r2 : List V → Hp → VK → Prop) : List V → Hp → VK → Prop := fun xs H Q => r1 xs H Q ∨ r2 xs H Q
theorem callr_or {X : Cx} {f : Value} {r1 r2 : List V → Hp → VK → Prop} (h1 : CallR X f r1) (h2 : CallR X f r2) : CallR X f (rOrC r1 r2) := by
  intro pins s σ H xs us Q I r h
  rcases h with h | h
  · exact h1 pins s σ H xs us Q I r h
  · exact h2 pins s σ H xs us Q I r h
def rOrS (r1 r2 : V → Option Int → Option Int → Hp → VK → Prop) : V → Option Int → Option Int → Hp → VK → Prop := fun x l h H Q => r1 x l h H Q ∨ r2 x l h H Q
theorem slr_or {X : Cx} {r1 r2 : V → Option Int → Option Int → Hp → VK → Prop} (h1 : SlR X r1) (h2 : SlR X r2) : SlR X (rOrS r1 r2) := by
  intro pins s σ H x v vl vu lo hi sl Q I rx hs pl pu h
  rcases h with h | h
  · exact h1 pins s σ H x v vl vu lo hi sl Q I rx hs pl pu h
  · exact h2 pins s σ H x v vl vu lo hi sl Q I rx hs pl pu h

/-! ### + - * // % ** -/
def bI (b : Bool) : Int := if b = true then 1 else 0
def gAdd : D → D → Option Out
  | .int i, .int j => some (.val (.int (i + j)))
  | .bool i, .int j => some (.val (.int (bI i + j)))
  | .int i, .bool j => some (.val (.int (i + bI j)))
  | .str a, .str b => if a.length + b.length ≤ sizeLine then some (.val (.str (a ++ b))) else none
  | .list xs, .list ys => if xs.length + ys.length ≤ sizeLine then some (.newl (xs ++ ys)) else none
  | .tuple xs, .tuple ys => if xs.length + ys.length ≤ sizeLine then (if xs = [] then some (.val (.tuple ys)) else if ys = [] then some (.val (.tuple xs)) else some (.newt (xs ++ ys))) else none
  | _, _ => none
def rBI (f : Int → Int → Int) : R2 := fun x y H Q => (∃ a j, x = .bl a ∧ y = .int j ∧ Q (.int (f (bI a) j)) H) ∨ ∃ i b, x = .int i ∧ y = .bl b ∧ Q (.int (f i (bI b))) H
theorem op_add_bi {X : Cx} : OpR X (binaryOp .Add) (rBI fun i j => i + j) := by
  intro pins s σ H x y v u Q I rx ry h
  rcases h with ⟨a, j, rfl, rfl, q⟩ | ⟨i, b, rfl, rfl, q⟩
  · cases rx
    obtain ⟨t, rfl⟩ := ry
    exact PySem.IntBool.add_bool_int ⟨.int _, H, I.tok _, ⟨_, rfl⟩, q⟩
  · obtain ⟨t, rfl⟩ := rx
    cases ry
    exact add_int_bool ⟨.int _, H, I.tok _, ⟨_, rfl⟩, q⟩
theorem op_sub_bi {X : Cx} : OpR X (binaryOp .Sub) (rBI fun i j => i - j) := by
  intro pins s σ H x y v u Q I rx ry h
  rcases h with ⟨a, j, rfl, rfl, q⟩ | ⟨i, b, rfl, rfl, q⟩
  · cases rx
    obtain ⟨t, rfl⟩ := ry
    exact PySem.IntBool.sub_bool_int ⟨.int _, H, I.tok _, ⟨_, rfl⟩, q⟩
  · obtain ⟨t, rfl⟩ := rx
    cases ry
    exact PySem.IntBool.sub_int_bool ⟨.int _, H, I.tok _, ⟨_, rfl⟩, q⟩
def rAddX (K : PySem.W.Frag) : R2 := rOr (rBI fun i j => i + j) <| rOr (rI0 fun i j => .int (i + j)) (rOr (fun x y H Q => ∃ i j, x = .str i ∧ y = .str j ∧ i.length + j.length ≤ sizeLine ∧ Q (.str (i ++ j)) H) (rOr rCat (rCatA K)))
theorem op_addX {X : Cx} {C : Ct} (hK : X.K = C.K) : OpR X (binaryOp .Add) (rAddX C.K) := by rw [← hK]; exact opr_or op_add_bi (opr_or op_add (opr_or op_add_str (opr_or op_cat op_catA)))
theorem ops_add {C : Ct} : OpS C (rAddX C.K) gAdd := by
  intro Hf H x y d e Q sm h1 h2 P
  unfold gAdd at P
  split at P
  · exact .inr (.inl ⟨_, _, h1.int, h2.int, P _ (.int _)⟩)
  · exact .inl (.inl ⟨_, _, h1.bl, h2.int, P _ (.int _)⟩)
  · exact .inl (.inr ⟨_, _, h1.int, h2.bl, P _ (.int _)⟩)
  · split at P
    · rename_i hz
      exact .inr (.inr (.inl ⟨_, _, h1.str, h2.str, hz, P _ (.str _)⟩))
    · exact P.elim
  · split at P
    · rename_i hz
      obtain ⟨p, vs, rfl, a1, a2⟩ := h1.lst
      obtain ⟨q, us, rfl, b1, b2⟩ := h2.lst
      exact .inr (.inr (.inr (.inl ⟨p, q, vs, us, rfl, rfl, a1, b1, by rw [a2.length, b2.length]; exact hz, fun r hr => P r _ hr (a2.append b2)⟩)))
    · exact P.elim
  · rename_i xs ys
    split at P
    · rename_i hz
      obtain ⟨p, vs, rfl, a1, a2, a3⟩ := h1.tup sm
      obtain ⟨q, us, rfl, b1, b2, b3⟩ := h2.tup sm
      have nil : ∀ {vs : List V} {ds : List D}, DqAll C.K Hf vs ds → (vs = [] ↔ ds = []) := fun {vs ds} h => by
        have := h.length
        cases vs <;> cases ds <;> simp_all
      refine .inr (.inr (.inr (.inr ⟨p, q, vs, us, rfl, rfl, a1, b1, by rw [a2.length, b2.length]; exact hz, fun e => ?_, fun e1 e2 => ?_, fun e1 e2 r hr => ?_⟩)))
      · rw [if_pos ((nil a2).mp e)] at P
        exact P _ b3
      · rw [if_neg (fun z => e1 ((nil a2).mpr z)), if_pos ((nil b2).mp e2)] at P
        exact P _ a3
      · rw [if_neg (fun z => e1 ((nil a2).mpr z)), if_neg (fun z => e2 ((nil b2).mpr z))] at P
        exact P r _ hr (a2.append b2)
    · exact P.elim
  · exact P.elim
def gSub : D → D → Option Out
  | .int i, .int j => some (.val (.int (i - j)))
  | .bool i, .int j => some (.val (.int (bI i - j)))
  | .int i, .bool j => some (.val (.int (i - bI j)))
  | _, _ => none
def rSubX : R2 := rOr (rBI fun i j => i - j) (rI0 fun i j => .int (i - j))
theorem op_subX {X : Cx} : OpR X (binaryOp .Sub) rSubX := opr_or op_sub_bi op_sub
theorem ops_sub {C : Ct} : OpS C rSubX gSub := by
  intro Hf H x y d e Q sm h1 h2 P
  unfold gSub at P
  split at P
  · exact .inr ⟨_, _, h1.int, h2.int, P _ (.int _)⟩
  · exact .inl (.inl ⟨_, _, h1.bl, h2.int, P _ (.int _)⟩)
  · exact .inl (.inr ⟨_, _, h1.int, h2.bl, P _ (.int _)⟩)
  · exact P.elim
instance (i j : Int) : Decidable (CMul i j) := inferInstanceAs (Decidable (_ ∨ _))
def gMul : D → D → Option Out
  | .int i, .int j => if CMul i j then some (.val (.int (i * j))) else none
  | .list xs, .int k => if -(2 ^ 63) ≤ k ∧ k < 2 ^ 63 ∧ xs.length * k.toNat ≤ sizeLine then some (.newl (List.replicate k.toNat xs).flatten) else none
  | _, _ => none
def rMulX : R2 := rOr (rI CMul fun i j => .int (i * j)) rRep
theorem op_mulXX {X : Cx} : OpR X (binaryOp .Mult) rMulX := opr_or op_mul op_rep
theorem DqAll.rep {K : PySem.W.Frag} {H : Hp} {vs : List V} {ds : List D} (h : DqAll K H vs ds) : ∀ n : Nat, DqAll K H (List.replicate n vs).flatten (List.replicate n ds).flatten
  | 0 => .nil
  | n + 1 => by
    rw [List.replicate_succ, List.replicate_succ, List.flatten_cons, List.flatten_cons]
    exact h.append (DqAll.rep h n)
theorem ops_mul {C : Ct} : OpS C rMulX gMul := by
  intro Hf H x y d e Q sm h1 h2 P
  unfold gMul at P
  split at P
  · split at P
    · rename_i hz
      exact .inl ⟨_, _, h1.int, h2.int, hz, P _ (.int _)⟩
    · exact P.elim
  · split at P
    · rename_i hz
      obtain ⟨p, vs, rfl, a1, a2⟩ := h1.lst
      exact .inr ⟨p, _, vs, rfl, h2.int, a1, hz.1, hz.2.1, by rw [a2.length]; exact hz.2.2, fun r hr => P r _ hr (a2.rep _)⟩
    · exact P.elim
  · exact P.elim
def gDiv : D → D → Option Out
  | .int i, .int j => if 0 < j ∧ j.natAbs.log2 < 9000 then some (.val (.int (i / j))) else none
  | _, _ => none
theorem ops_div {C : Ct} : OpS C (rI CDivW fun i j => .int (i / j)) gDiv := by
  intro Hf H x y d e Q sm h1 h2 P
  unfold gDiv at P
  split at P
  · split at P
    · rename_i hz
      exact ⟨_, _, h1.int, h2.int, hz, P _ (.int _)⟩
    · exact P.elim
  · exact P.elim
def gMod : D → D → Option Out
  | .int i, .int j => if 0 < j then some (.val (.int (i % j))) else none
  | _, _ => none
theorem ops_mod {C : Ct} : OpS C (rI (fun _ j => 0 < j) fun i j => .int (i % j)) gMod := by
  intro Hf H x y d e Q sm h1 h2 P
  unfold gMod at P
  split at P
  · split at P
    · rename_i hz
      exact ⟨_, _, h1.int, h2.int, hz, P _ (.int _)⟩
    · exact P.elim
  · exact P.elim
def gPow : D → D → Option Out
  | .int i, .int j => if 0 ≤ j ∧ j ≤ 1000000 ∧ i.natAbs < 2 ^ 64 then some (.val (.int (i ^ j.toNat))) else none
  | _, _ => none
theorem ops_pow {C : Ct} : OpS C (rI CPow fun i j => .int (i ^ j.toNat)) gPow := by
  intro Hf H x y d e Q sm h1 h2 P
  unfold gPow at P
  split at P
  · split at P
    · rename_i hz
      exact ⟨_, _, h1.int, h2.int, hz, P _ (.int _)⟩
    · exact P.elim
  · exact P.elim
def gNeg : D → Option Out
  | .int i => some (.val (.int (-i)))
  | _ => none
theorem uns_neg {C : Ct} : UnS C (rU fun i => .int (-i)) gNeg := by
  intro Hf H x d Q sm h P
  unfold gNeg at P
  split at P
  · exact ⟨_, h.int, P _ (.int _)⟩
  · exact P.elim

/-! ### comparisons -/
def gI (p : Int → Int → Bool) : D → D → Option Bool
  | .int i, .int j => some (p i j)
  | _, _ => none
theorem ops_gI {C : Ct} {p : Int → Int → Bool} : OpS C (rI0 fun i j => .bl (p i j)) (bo (gI p)) := by
  intro Hf H x y d e Q sm h1 h2 P
  unfold bo gI at P
  split at P
  · exact ⟨_, _, h1.int, h2.int, P _ (.bl _)⟩
  · exact P.elim
abbrev gLt := gI fun i j => decide (i < j)
abbrev gGt := gI fun i j => decide (j < i)
abbrev gGe := gI fun i j => decide (j ≤ i)
def eqStr : D → D → Option Bool
  | .str a, .str b => some (a == b)
  | _, _ => none
def gEq (d e : D) : Option Bool := if SeqAt.shaped d = true ∧ SeqAt.shaped e = true then some (PyData.eqv d e) else eqStr d e
def gNe (d e : D) : Option Bool := if SeqAt.shaped d = true ∧ SeqAt.shaped e = true then some (!PyData.eqv d e) else (eqStr d e).map not
def rEqX (K : PySem.W.Frag) : R2 := rOr (rEqD K) rEq
def rNeX (K : PySem.W.Frag) : R2 := rOr (rNeD K) rNe
theorem ops_eq {C : Ct} : OpS C (rEqX C.K) (bo gEq) := by
  intro Hf H x y d e Q sm h1 h2 P
  unfold bo gEq at P
  split at P
  · rename_i hz
    exact .inl ⟨d, e, (h1.dq sm).dp, (h2.dq sm).dp, hz.1, hz.2, P _ (.bl _)⟩
  · unfold eqStr at P
    split at P
    · refine .inr ?_
      rw [h1.str, h2.str]
      exact ⟨rfl, by rw [dec_str]; exact P _ (.bl _)⟩
    · exact P.elim
theorem ops_ne {C : Ct} : OpS C (rNeX C.K) (bo gNe) := by
  intro Hf H x y d e Q sm h1 h2 P
  unfold bo gNe at P
  split at P
  · rename_i hz
    exact .inl ⟨d, e, (h1.dq sm).dp, (h2.dq sm).dp, hz.1, hz.2, P _ (.bl _)⟩
  · unfold eqStr at P
    split at P
    · refine .inr ?_
      rw [h1.str, h2.str]
      exact ⟨rfl, by rw [dec_str]; exact P _ (.bl _)⟩
    · exact P.elim
theorem op_eqK {X : Cx} {C : Ct} {k : Nat} (hK : X.K = C.K) (hr : Room k X.A) : OpR X (compareOp .Eq) (rEqX C.K) := by rw [← hK]; exact opr_or (op_eqD hr.units) op_eq
theorem op_neK {X : Cx} {C : Ct} {k : Nat} (hK : X.K = C.K) (hr : Room k X.A) : OpR X (compareOp .NotEq) (rNeX C.K) := by rw [← hK]; exact opr_or (op_neD hr.units) op_ne
/-- in: lists of data, a sign in a text -/
def gIn : D → D → Option Bool
  | d, .list ds => if SeqAt.shaped d = true ∧ SeqAt.shaped (.list ds) = true then some (ds.any fun z => PyData.eqv z d) else none
  | d, .tuple ds => if SeqAt.shaped d = true ∧ SeqAt.shaped (.tuple ds) = true then some (ds.any fun z => PyData.eqv z d) else none
  | .str ⟨⟨[c]⟩⟩, .str z => some (decide (c ∈ z.cps.toList))
  | _, _ => none
def gNotIn (d e : D) : Option Bool := (gIn d e).map not
/-- x in a tuple of data -/
def rInT (K : PySem.W.Frag) : R2 := fun x y H Q => ∃ d ds, Dp K H x d ∧ Dp K H y (.tuple ds) ∧ SeqAt.shaped d = true ∧ SeqAt.shaped (.tuple ds) = true ∧ Q (.bl (ds.any fun z => PyData.eqv z d)) H
def rNotInT (K : PySem.W.Frag) : R2 := fun x y H Q => ∃ d ds, Dp K H x d ∧ Dp K H y (.tuple ds) ∧ SeqAt.shaped d = true ∧ SeqAt.shaped (.tuple ds) = true ∧ Q (.bl (!ds.any fun z => PyData.eqv z d)) H
theorem lay_tup {ds : List D} (h : SeqAt.shaped (.tuple ds) = true) : PyData.canLayAll0 ds = true := by
  unfold SeqAt.shaped at h
  have h1 := (Bool.and_eq_true_iff.mp h).1
  unfold PyData.canLay0 at h1
  exact h1
theorem op_inT {X : Cx} (hu : X.A.units + 65 < cLine) : OpR X (compareOp .In) (rInT X.K) := by
  intro pins s σ H x y v u Q I rx ry h
  obtain ⟨d, ds, hd, he, sd, se, q⟩ := h
  have r1 := (Dp.reads I d x v hd rx).choose_spec
  have r2 := (Dp.reads I (.tuple ds) y u he ry).choose_spec
  exact SeqAt.in_tuple_reads r2 r1 (lay_tup se) (SeqAt.canLay_of_shaped sd) (room_in_shaped sd hu) ⟨.bl _, H, I, rfl, q⟩
theorem op_notInT {X : Cx} (hu : X.A.units + 65 < cLine) : OpR X (compareOp .NotIn) (rNotInT X.K) := by
  intro pins s σ H x y v u Q I rx ry h
  obtain ⟨d, ds, hd, he, sd, se, q⟩ := h
  have r1 := (Dp.reads I d x v hd rx).choose_spec
  have r2 := (Dp.reads I (.tuple ds) y u he ry).choose_spec
  exact SeqAt.notIn_tuple_reads r2 r1 (lay_tup se) (SeqAt.canLay_of_shaped sd) (room_in_shaped sd hu) ⟨.bl _, H, I, rfl, q⟩
def rInX (K : PySem.W.Frag) : R2 := rOr (rOr (rInD K) (rInT K)) (fun x y H Q => ∃ (c : Nat) (z : Str), x = .str ⟨#[c]⟩ ∧ y = .str z ∧ Q (.bl (decide (c ∈ z.cps.toList))) H)
def rNotInX (K : PySem.W.Frag) : R2 := rOr (rOr (rNotInD K) (rNotInT K)) (fun x y H Q => ∃ (c : Nat) (z : Str), x = .str ⟨#[c]⟩ ∧ y = .str z ∧ Q (.bl (!decide (c ∈ z.cps.toList))) H)
theorem hu65 {A : Around} {k : Nat} (hr : Room k A) : A.units + 65 < cLine := by have := hr.un; omega
theorem op_inX {X : Cx} {C : Ct} {k : Nat} (hK : X.K = C.K) (hr : Room k X.A) : OpR X (compareOp .In) (rInX C.K) := by rw [← hK]; exact opr_or (opr_or (op_inD (hu65 hr)) (op_inT (hu65 hr))) op_in_sign
theorem op_notInX {X : Cx} {C : Ct} {k : Nat} (hK : X.K = C.K) (hr : Room k X.A) : OpR X (compareOp .NotIn) (rNotInX C.K) := by rw [← hK]; exact opr_or (opr_or (op_notInD (hu65 hr)) (op_notInT (hu65 hr))) op_notIn_sign
theorem ops_in {C : Ct} : OpS C (rInX C.K) (bo gIn) := by
  intro Hf H x y d e Q sm h1 h2 P
  unfold bo gIn at P
  split at P
  · split at P
    · rename_i hz
      exact .inl (.inl ⟨d, _, (h1.dq sm).dp, (h2.dq sm).dp, hz.1, hz.2, P _ (.bl _)⟩)
    · exact P.elim
  · split at P
    · rename_i hz
      exact .inl (.inr ⟨d, _, (h1.dq sm).dp, (h2.dq sm).dp, hz.1, hz.2, P _ (.bl _)⟩)
    · exact P.elim
  · exact .inr ⟨_, _, h1.str, h2.str, P _ (.bl _)⟩
  · exact P.elim
theorem ops_notIn {C : Ct} : OpS C (rNotInX C.K) (bo gNotIn) := by
  intro Hf H x y d e Q sm h1 h2 P
  unfold bo gNotIn gIn at P
  split at P
  · split at P
    · rename_i hz
      exact .inl (.inl ⟨d, _, (h1.dq sm).dp, (h2.dq sm).dp, hz.1, hz.2, P _ (.bl _)⟩)
    · exact P.elim
  · split at P
    · rename_i hz
      exact .inl (.inr ⟨d, _, (h1.dq sm).dp, (h2.dq sm).dp, hz.1, hz.2, P _ (.bl _)⟩)
    · exact P.elim
  · exact .inr ⟨_, _, h1.str, h2.str, P _ (.bl _)⟩
  · exact P.elim
/-- is None -/
def isNoneD : D → Bool
  | .none => true
  | _ => false
def gIsN : D → D → Option Bool
  | d, .none => some (isNoneD d)
  | _, _ => none
def gNotN : D → D → Option Bool
  | d, .none => some (!isNoneD d)
  | _, _ => none
theorem vw_non {C : Ct} {Hf H : Hp} {v : V} {d : D} (h : Vw C Hf H v d) : decide (v = .non) = isNoneD d := by
  cases d with
  | list ds => obtain ⟨p, vs, rfl, _⟩ := h; rfl
  | _ =>
    have q : Dq C.K Hf v _ := h
    cases q <;> rfl
theorem ops_isN {C : Ct} : OpS C (fun x y H Q => y = .non ∧ Q (.bl (decide (x = .non))) H) (bo gIsN) := by
  intro Hf H x y d e Q sm h1 h2 P
  unfold bo gIsN at P
  split at P
  · cases (show Dq C.K Hf y .none from h2)
    exact ⟨rfl, P _ (by rw [vw_non h1]; exact .bl _)⟩
  · exact P.elim
theorem ops_notN {C : Ct} : OpS C (fun x y H Q => y = .non ∧ Q (.bl (!decide (x = .non))) H) (bo gNotN) := by
  intro Hf H x y d e Q sm h1 h2 P
  unfold bo gNotN at P
  split at P
  · cases (show Dq C.K Hf y .none from h2)
    exact ⟨rfl, P _ (by rw [vw_non h1]; exact .bl _)⟩
  · exact P.elim

/-! ### subscripts, slices -/
def gIx : D → D → Option Out
  | .list ds, .int i => (atI ds i).map .val
  | .tuple ds, .int i => (atI ds i).map .val
  | .str z, .int i => if z.length ≤ sizeLine then (atI z.cps.toList i).map fun c => .val (.str ⟨#[c]⟩) else none
  | _, _ => none
theorem DqAll.atI {K : PySem.W.Frag} {H : Hp} {vs : List V} {ds : List D} {i : Int} {d : D} (h : DqAll K H vs ds) (e : L2.atI ds i = some d) : ∃ v, L2.atI vs i = some v ∧ Dq K H v d := by
  unfold L2.atI at e ⊢
  rw [h.length]
  cases q : ixN ds.length i with
  | none => rw [q] at e; cases e
  | some j => rw [q] at e; exact h.getD e
theorem op_ixK {X : Cx} {C : Ct} (hK : X.K = C.K) : IxR X (rIx C.K) := by rw [← hK]; exact ix_seq
theorem ops_ix {C : Ct} : OpS C (rIx C.K) gIx := by
  intro Hf H x y d e Q sm h1 h2 P
  unfold gIx at P
  split at P
  · rename_i ds i
    cases q : L2.atI ds i with
    | none => rw [q] at P; exact P.elim
    | some z =>
      rw [q] at P
      obtain ⟨p, vs, rfl, a1, a2⟩ := h1.lst
      obtain ⟨v, g1, g2⟩ := a2.atI q
      exact .inl ⟨p, vs, i, v, rfl, h2.int, SqL.of a1, g1, P v g2⟩
  · rename_i ds i
    cases q : L2.atI ds i with
    | none => rw [q] at P; exact P.elim
    | some z =>
      rw [q] at P
      obtain ⟨p, vs, rfl, a1, a2, _⟩ := h1.tup sm
      obtain ⟨v, g1, g2⟩ := a2.atI q
      exact .inr (.inl ⟨p, vs, i, v, rfl, h2.int, a1, g1, P v g2⟩)
  · rename_i z i
    split at P
    · rename_i hz
      cases q : L2.atI z.cps.toList i with
      | none => rw [q] at P; exact P.elim
      | some c =>
        rw [q] at P
        exact .inr (.inr ⟨z, i, c, h1.str, h2.int, hz, q, P _ (.str _)⟩)
    · exact P.elim
  · exact P.elim
def cutD (xs : List D) (lo hi : Option Int) : List D := (xs.drop (HT.sIx xs.length 0 lo)).take (HT.sIx xs.length xs.length hi - HT.sIx xs.length 0 lo)
theorem DqAll.cut {K : PySem.W.Frag} {H : Hp} {vs : List V} {ds : List D} (h : DqAll K H vs ds) (lo hi : Option Int) : DqAll K H (cutV vs lo hi) (cutD ds lo hi) := by
  unfold cutV cutD
  rw [h.length]
  exact (h.drop _).take _
def gSl (d : D) (lo hi : Option Int) : Option Out := match d with
  | .list ds => some (.newl (cutD ds lo hi))
  | .tuple ds => if HT.sIx ds.length 0 lo = 0 ∧ HT.sIx ds.length ds.length hi = ds.length then some (.val (.tuple ds)) else some (.newt (cutD ds lo hi))
  | .str z => if z.length ≤ sizeLine then some (.val (.str (cutS z lo hi))) else none
  | _ => none
def rSlX (K : PySem.W.Frag) : V → Option Int → Option Int → Hp → VK → Prop := rOrS (rSlL K) (rOrS (rSlA K) rSlS)
theorem sl_X {X : Cx} {C : Ct} (hK : X.K = C.K) : SlR X (rSlX C.K) := by rw [← hK]; exact slr_or sl_list (slr_or sl_tupA sl_str)
theorem sls_X {C : Ct} : SlS C (rSlX C.K) gSl := by
  intro Hf H x d lo hi Q sm h P
  unfold gSl at P
  split at P
  · obtain ⟨p, vs, rfl, a1, a2⟩ := h.lst
    exact .inl ⟨p, vs, rfl, SqL.of a1, fun r hr => P r _ hr (a2.cut lo hi)⟩
  · rename_i ds
    obtain ⟨p, vs, rfl, a1, a2, a3⟩ := h.tup sm
    refine .inr (.inl ⟨p, vs, rfl, a1, fun e => ?_, fun e r hr => ?_⟩)
    · rw [a2.length] at e
      rw [if_pos e] at P
      exact P _ a3
    · rw [a2.length] at e
      rw [if_neg e] at P
      exact P r _ hr (a2.cut lo hi)
  · split at P
    · rename_i hz
      exact .inr (.inr ⟨_, h.str, hz, P _ (.str _)⟩)
    · exact P.elim
  · exact P.elim
/-- e[::-1] of a list -/
def mRev (m : M RV) : M RV := fun ε => (m ε).bind fun r ε1 => match view ε1 r with
  | some (.list ds) => outR (some (.newl ds.reverse)) ε1
  | _ => .bad
end M3

namespace M3
open PySem PySem.Spec L2
open PyProof.Rows hiding St

/-! ### built-in functions and types, called -/
section
variable {C : Ct}
/-- len -/
def gLen : List D → Option Out
  | [.list ds] => some (.val (.int ds.length))
  | [.tuple ds] => some (.val (.int ds.length))
  | [.str z] => if z.length ≤ sizeLine then some (.val (.int z.length)) else none
  | _ => none
def rLenX (K : PySem.W.Frag) : List V → Hp → VK → Prop := rOrC (fun xs H Q => ∃ p ys, xs = [.ref p] ∧ (SqL K H p ys ∨ SqT K H p ys) ∧ Q (.int ys.length) H) (fun xs H Q => ∃ z, xs = [.str z] ∧ z.length ≤ sizeLine ∧ Q (.int z.length) H)
theorem cr_len {X : Cx} (hK : X.K = C.K) : CallR X (.builtin "len") (rLenX C.K) := by rw [← hK]; exact callr_or call_len_seq call_len_str
theorem cs_len : CallS C (rLenX C.K) gLen := by
  intro Hf H xs ds Q sm h P
  unfold gLen at P
  split at P
  · obtain ⟨v, rfl, q⟩ := h.one
    obtain ⟨p, vs, rfl, a1, a2⟩ := q.lst
    exact .inl ⟨p, vs, rfl, .inl (SqL.of a1), by rw [a2.length]; exact P _ (.int _)⟩
  · obtain ⟨v, rfl, q⟩ := h.one
    obtain ⟨p, vs, rfl, a1, a2, _⟩ := q.tup sm
    exact .inl ⟨p, vs, rfl, .inr a1, by rw [a2.length]; exact P _ (.int _)⟩
  · split at P
    · rename_i hz
      obtain ⟨v, rfl, q⟩ := h.one
      exact .inr ⟨_, by rw [q.str], hz, P _ (.int _)⟩
    · exact P.elim
  · exact P.elim
/-- list(x), tuple(x) -/
def gList : List D → Option Out
  | [.list ds] => some (.newl ds)
  | [.tuple ds] => some (.newl ds)
  | _ => none
def gTuple : List D → Option Out
  | [.list ds] => some (.newt ds)
  | [.tuple ds] => some (.val (.tuple ds))
  | _ => none
def rListX (K : PySem.W.Frag) : List V → Hp → VK → Prop := fun xs H Q => ∃ p ys, xs = [.ref p] ∧ (SqL K H p ys ∨ SqT K H p ys) ∧ ∀ l, H l = none → Q (.ref l) (upd H l (.lst ys))
def rTupleX (K : PySem.W.Frag) : List V → Hp → VK → Prop := fun xs H Q => ∃ p ys, xs = [.ref p] ∧ ((SqL K H p ys ∧ ∀ l, H l = none → Q (.ref l) (upd H l (.tup ys))) ∨ (SqT K H p ys ∧ Q (.ref p) H))
theorem cr_list {X : Cx} (hK : X.K = C.K) : CallR X (.type "list") (rListX C.K) := by rw [← hK]; exact call_list_of
theorem cr_tuple {X : Cx} (hK : X.K = C.K) : CallR X (.type "tuple") (rTupleX C.K) := by rw [← hK]; exact call_tuple_of
theorem cs_list : CallS C (rListX C.K) gList := by
  intro Hf H xs ds Q sm h P
  unfold gList at P
  split at P
  · obtain ⟨v, rfl, q⟩ := h.one
    obtain ⟨p, vs, rfl, a1, a2⟩ := q.lst
    exact ⟨p, vs, rfl, .inl (SqL.of a1), fun r hr => P r _ hr a2⟩
  · obtain ⟨v, rfl, q⟩ := h.one
    obtain ⟨p, vs, rfl, a1, a2, _⟩ := q.tup sm
    exact ⟨p, vs, rfl, .inr a1, fun r hr => P r _ hr a2⟩
  · exact P.elim
theorem cs_tuple : CallS C (rTupleX C.K) gTuple := by
  intro Hf H xs ds Q sm h P
  unfold gTuple at P
  split at P
  · obtain ⟨v, rfl, q⟩ := h.one
    obtain ⟨p, vs, rfl, a1, a2⟩ := q.lst
    exact ⟨p, vs, rfl, .inl ⟨SqL.of a1, fun r hr => P r _ hr a2⟩⟩
  · obtain ⟨v, rfl, q⟩ := h.one
    obtain ⟨p, vs, rfl, a1, a2, a3⟩ := q.tup sm
    exact ⟨p, vs, rfl, .inr ⟨a1, P _ a3⟩⟩
  · exact P.elim
def gInt : List D → Option Out
  | [.int i] => some (.val (.int i))
  | [.bool k] => some (.val (.int (if k then 1 else 0)))
  | _ => none
theorem cs_int : CallS C (fun xs H Q => (∃ i, xs = [.int i] ∧ Q (.int i) H) ∨ ∃ k, xs = [.bl k] ∧ Q (.int (if k then 1 else 0)) H) gInt := by
  intro Hf H xs ds Q sm h P
  unfold gInt at P
  split at P
  · obtain ⟨v, rfl, q⟩ := h.one
    exact .inl ⟨_, by rw [q.int], P _ (.int _)⟩
  · obtain ⟨v, rfl, q⟩ := h.one
    exact .inr ⟨_, by rw [q.bl], P _ (.int _)⟩
  · exact P.elim
def gMin : List D → Option Out
  | [.int i, .int j] => some (.val (.int (if j < i then j else i)))
  | _ => none
theorem cs_min : CallS C (fun xs H Q => ∃ i j, xs = [.int i, .int j] ∧ Q (.int (if j < i then j else i)) H) gMin := by
  intro Hf H xs ds Q sm h P
  unfold gMin at P
  split at P
  · obtain ⟨v, u, rfl, q1, q2⟩ := h.two
    exact ⟨_, _, by rw [q1.int, q2.int], P _ (.int _)⟩
  · exact P.elim
/-- all, any, sum -/
def blsD : List D → Option (List Bool)
  | [] => some []
  | .bool b :: ds => (blsD ds).map (b :: ·)
  | _ => none
theorem blsD_vs {K : PySem.W.Frag} {H : Hp} : ∀ {vs : List V} {ds : List D} {bs : List Bool}, DqAll K H vs ds → blsD ds = some bs → vs = bs.map V.bl
  | _, _, _, .nil, e => by cases e; rfl
  | _, _, _, .cons (d := d) (ds := ds) a b, e => by
    cases d with
    | bool k =>
      unfold blsD at e
      cases q : blsD ds with
      | none => rw [q] at e; cases e
      | some bs =>
        rw [q] at e
        cases e
        cases a
        rw [blsD_vs b q]
        rfl
    | _ => cases e
def gAll : List D → Option Out
  | [.list ds] => (blsD ds).map fun bs => .val (.bool (bs.all id))
  | _ => none
theorem cr_allK {X : Cx} (hK : X.K = C.K) (hc : X.calm = true) : CallR X (.builtin "all") (rAll C.K) := by rw [← hK]; exact cr_all hc
theorem cs_all : CallS C (rAll C.K) gAll := by
  intro Hf H xs ds Q sm h P
  unfold gAll at P
  split at P
  · rename_i ds
    cases q : blsD ds with
    | none => rw [q] at P; exact P.elim
    | some bs =>
      rw [q] at P
      obtain ⟨v, rfl, q1⟩ := h.one
      obtain ⟨p, vs, rfl, a1, a2⟩ := q1.lst
      rw [blsD_vs a2 q] at a1
      exact ⟨p, bs, rfl, SqL.of a1, P _ (.bl _)⟩
  · exact P.elim
def intsD : List D → Option (List Int)
  | [] => some []
  | .int b :: ds => (intsD ds).map (b :: ·)
  | _ => none
theorem intsD_vs {K : PySem.W.Frag} {H : Hp} : ∀ {vs : List V} {ds : List D} {bs : List Int}, DqAll K H vs ds → intsD ds = some bs → vs = bs.map V.int
  | _, _, _, .nil, e => by cases e; rfl
  | _, _, _, .cons (d := d) (ds := ds) a b, e => by
    cases d with
    | int k =>
      unfold intsD at e
      cases q : intsD ds with
      | none => rw [q] at e; cases e
      | some bs =>
        rw [q] at e
        cases e
        cases a
        rw [intsD_vs b q]
        rfl
    | _ => cases e
/-- repr(x) -/
def rRepr (K : PySem.W.Frag) : List V → Hp → VK → Prop := fun xs H Q => ∃ x d, xs = [x] ∧ Dp K H x d ∧ PyData.showable d = true ∧ PyData.hasDict d = false ∧ d.depth ≤ 64 ∧ d.shown.length ≤ sizeLine ∧ Q (.str d.shown) H
theorem call_reprD {X : Cx} {k : Nat} (hr : Room k X.A) (hg : X.A.guards = some []) : CallR X (.builtin "repr") (rRepr X.K) := by
  intro pins s σ H xs us Q I r h
  obtain ⟨x, d, rfl, hd, h1, h2, h3, h4, q⟩ := h
  cases r with
  | cons rx rn =>
    cases rn
    rename_i u
    obtain ⟨as, r1⟩ := Dp.reads I d x u hd rx
    have fin : ∀ (tk : Nat) (t : Tok), EP X pins σ Q (.str d.shown t) { s with toks := tk } := fun tk t => ⟨.str _, H, I.tok tk, ⟨_, rfl⟩, q⟩
    have big : ∀ (a : Addr), u = .ref a → wpAny (model X.prog X.w) X.A (call (.builtin "repr") [u]) (EP X pins σ Q) X.xe s := fun a e => by
      subst e
      refine repr_of_reads' r1 h1 (PyData.noDict_hsm h2) hg ?_ (fun _ _ e => e) (fun h' t tk hk => ?_) h4
      · have := hr.un; omega
      · exact ⟨.str _, H, I.kept (t' := tk) hk, ⟨_, rfl⟩, q⟩
    cases d with
    | none => cases hd; cases rx; exact P.repr_of_none (fin _ _)
    | bool b =>
      cases hd
      cases rx
      refine P.repr_of_bool ?_
      have := fin (s.toks + 1) s.toks
      unfold PyData.shown at this
      exact this
    | int i =>
      cases hd
      obtain ⟨t, rfl⟩ := rx
      unfold PyData.showable at h1
      refine P.repr_of_int (of_decide_eq_true h1) ?_
      have := fin (s.toks + 1) s.toks
      unfold PyData.shown at this
      exact this
    | str z =>
      cases hd
      obtain ⟨t, rfl⟩ := rx
      refine P.repr_of_str ?_ ?_
      · have := fin (s.toks + 1) s.toks
        unfold PyData.shown at this
        exact this
      · unfold PyData.shown at h4
        exact h4
    | list ds =>
      cases hd with
      | lst hs ha => cases rx; exact big _ rfl
    | tuple ds =>
      cases hd with
      | tup hs ha => cases rx; exact big _ rfl
    | dict kvs => cases hd
def gRepr : List D → Option Out
  | [d] => if PyData.showable d = true ∧ PyData.hasDict d = false ∧ d.depth ≤ 64 ∧ d.shown.length ≤ sizeLine then some (.val (.str d.shown)) else none
  | _ => none
theorem cr_repr {X : Cx} {k : Nat} (hK : X.K = C.K) (hr : Room k X.A) (hg : X.A.guards = some []) : CallR X (.builtin "repr") (rRepr C.K) := by rw [← hK]; exact call_reprD hr hg
theorem cs_repr : CallS C (rRepr C.K) gRepr := by
  intro Hf H xs ds Q sm h P
  unfold gRepr at P
  split at P
  · rename_i d
    split at P
    · rename_i hz
      obtain ⟨v, rfl, q⟩ := h.one
      exact ⟨v, d, rfl, (q.dq sm).dp, hz.1, hz.2.1, hz.2.2.1, hz.2.2.2, P _ (.str _)⟩
    · exact P.elim
  · exact P.elim

/-! ### methods of texts -/
def strsD : List D → Option (List Str)
  | [] => some []
  | .str b :: ds => (strsD ds).map (b :: ·)
  | _ => none
theorem strsD_vs {K : PySem.W.Frag} {H : Hp} : ∀ {vs : List V} {ds : List D} {bs : List Str}, DqAll K H vs ds → strsD ds = some bs → vs = bs.map V.str
  | _, _, _, .nil, e => by cases e; rfl
  | _, _, _, .cons (d := d) (ds := ds) a b, e => by
    cases d with
    | str k =>
      unfold strsD at e
      cases q : strsD ds with
      | none => rw [q] at e; cases e
      | some bs =>
        rw [q] at e
        cases e
        cases a
        rw [strsD_vs b q]
        rfl
    | _ => cases e
def gJoin : D → List D → Option Out
  | .str a, [.list ds] => (strsD ds).bind fun ys => if (ys.map (·.length)).sum + ys.length * a.length ≤ 16777216 then some (.val (.str (Txt.join a ys))) else none
  | .str a, [.tuple ds] => (strsD ds).bind fun ys => if (ys.map (·.length)).sum + ys.length * a.length ≤ 16777216 then some (.val (.str (Txt.join a ys))) else none
  | _, _ => none
def rJoinX (K : PySem.W.Frag) : V → List V → Hp → VK → Prop := fun x xs H Q => ∃ a p, ∃ ys : List Str, x = .str a ∧ xs = [.ref p] ∧ (SqL K H p (ys.map V.str) ∨ SqT K H p (ys.map V.str)) ∧ (ys.map (·.length)).sum + ys.length * a.length ≤ 16777216 ∧ Q (.str (Txt.join a ys)) H
theorem mr_join {X : Cx} (hK : X.K = C.K) : MtR X "str.join" (rJoinX C.K) := by rw [← hK]; exact mt_join
theorem mts_join : MtS C (rJoinX C.K) gJoin := by
  intro Hf H x xs d ds Q sm hd h P
  unfold gJoin at P
  split at P
  · rename_i a ds
    cases q : strsD ds with
    | none => rw [q] at P; exact P.elim
    | some ys =>
      rw [q] at P
      dsimp only [Option.bind] at P
      split at P
      · rename_i hz
        obtain ⟨v, rfl, q1⟩ := h.one
        obtain ⟨p, vs, rfl, a1, a2⟩ := q1.lst
        rw [strsD_vs a2 q] at a1
        exact ⟨a, p, ys, hd.str, rfl, .inl (SqL.of a1), hz, P _ (.str _)⟩
      · exact P.elim
  · rename_i a ds
    cases q : strsD ds with
    | none => rw [q] at P; exact P.elim
    | some ys =>
      rw [q] at P
      dsimp only [Option.bind] at P
      split at P
      · rename_i hz
        obtain ⟨v, rfl, q1⟩ := h.one
        obtain ⟨p, vs, rfl, a1, a2, _⟩ := q1.tup sm
        rw [strsD_vs a2 q] at a1
        exact ⟨a, p, ys, hd.str, rfl, .inr a1, hz, P _ (.str _)⟩
      · exact P.elim
  · exact P.elim
end

/-! ### isinstance -/
def tyD : D → String
  | .none => "NoneType"
  | .bool _ => "bool"
  | .int _ => "int"
  | .str _ => "str"
  | .list _ => "list"
  | .tuple _ => "tuple"
  | .dict _ => "dict"
theorem Dq.ty {K : PySem.W.Frag} {H : Hp} {v : V} {d : D} (h : Dq K H v d) : TyX K H v (.type (tyD d)) := by
  cases h with
  | non => exact .base .non
  | bl b => exact .base (.bl b)
  | int i => exact .base (.int i)
  | str x => exact .base (.str x)
  | lst h a => exact .base (.lst h)
  | tup h a =>
    rcases h with (h | ⟨o, h⟩) | ⟨o, its, n, h1, h2, _⟩
    · exact .base (.tup h)
    · exact .fTuple h
    · exact .kTuple h1 h2
def isiD (d : D) (T : String) : Option Bool := kitB (tyD d) T
def isiAny (d : D) : List String → Option Bool
  | [] => some false
  | T :: Ts => match isiD d T with
    | some true => some true
    | some false => isiAny d Ts
    | none => none
theorem kit_any {K : PySem.W.Frag} {d : D} : ∀ {Ts : List String} {b : Bool}, isiAny d Ts = some b → PySem.W.kitAny K (.type (tyD d)) (Ts.map Value.type) = some b
  | [], _, e => e
  | T :: Ts, b, e => by
    unfold isiAny at e
    show (match PySem.W.kitOne K (.type (tyD d)) (.type T) with
    | some true => some true
    | some false => PySem.W.kitAny K (.type (tyD d)) (Ts.map Value.type)
    | none => none) = some b
    cases q : isiD d T with
    | none => rw [q] at e; cases e
    | some k =>
      rw [q] at e
      rw [kit_ty q]
      cases k with
      | true => exact e
      | false => exact kit_any e
/-- isinstance(e, T) -/
def mIsi (T : String) (m : M RV) : M RV := fun ε => (m ε).bind fun r ε1 => match view ε1 r with
  | some d => (match isiD d T with
    | some b => .ok (.fro (.bool b)) ε1
    | none => .bad)
  | none => .bad
theorem me_isi {X : Cx} {C : Ct} {e : Expr} {te : TE} {m : M RV} {x : Str} {p px pos : Pos} (T : String) (h : MO X C e te m) (hm : X.mg "isinstance" = none) (hmx : X.mg x = none) (hv : bootBuiltins x = some (.type T) := by decide +kernel) (hg : Gl X "isinstance" := by rfl) (hgx : Gl X x := by rfl)
    (hn : x ≠ "__name__" := by decide) (hd : (x == ("__debug__" : Str)) = false := by decide) (he : starEach [e, .Name x px] X.env = (false, eval e X.env) :: starEach [.Name x px] X.env := by rfl) (he2 : starEach [Expr.Name x px] X.env = (false, eval (.Name x px) X.env) :: starEach [] X.env := by rfl)
    (hpl : (backTo pos (starEach [.Name x px] X.env)).any (·.1) = false := by rfl) :
    ME X C (.Call (.Name "isinstance" p) [e, .Name x px] [] pos) (tCB (rIsi C.K) (tCons te (tCons (tC (.ty T)) tNil))) (mIsi T m) := by
  refine ⟨by
    have q := pe_callB (p := p) (pos := pos) call_isi hg hm boot_isinstance (pa_cons h.pe (pa_cons (pe_bltn (pos := px) (v := .ty T) hgx hmx hv rfl hn hd) pa_nil he2) he) (by decide) (by decide) he hpl
    rw [h.hK] at q
    exact q, ?_, h.hK⟩
  refine Snd.bind (Rel1 := relO) (t1 := te) (t2 := fun v (σ : L2.St) H1 (Q : VK) => rIsi C.K [v, .ty T] H1 Q) h.sn fun Hf H w σ ε S b a Q E rb P => ?_
  split at P
  · rename_i d e
    split at P
    · rename_i k ek
      exact ⟨b, .ty T, .type (tyD d), .type T, k, rfl, .ty T, ((rb.2.view E e).dq E.sub).ty, kit_ty ek, P.here E ⟨fun _ z => z, .bl k⟩⟩
    · exact P.elim
  · exact P.elim
/-- isinstance(e, (T, U)) -/
def mIsi2 (T U : String) (m : M RV) : M RV := fun ε => (m ε).bind fun r ε1 => match view ε1 r with
  | some d => (match isiAny d [T, U] with
    | some b => .ok (.fro (.bool b)) ε1
    | none => .bad)
  | none => .bad
theorem me_isi2 {X : Cx} {C : Ct} {e : Expr} {te : TE} {m : M RV} {x y : Str} {p px py pt pos : Pos} {kk : Nat} (T U : String) (h : MO X C e te m) (hm : X.mg "isinstance" = none) (hmx : X.mg x = none) (hmy : X.mg y = none) (hv : bootBuiltins x = some (.type T) := by decide +kernel) (hvy : bootBuiltins y = some (.type U) := by decide +kernel)
    (hg : Gl X "isinstance" := by rfl) (hgx : Gl X x := by rfl) (hgy : Gl X y := by rfl) (hn : x ≠ "__name__" := by decide) (hd : (x == ("__debug__" : Str)) = false := by decide) (hny : y ≠ "__name__" := by decide) (hdy : (y == ("__debug__" : Str)) = false := by decide)
    (he : starEach [e, .Tuple [.Name x px, .Name y py] kk pt] X.env = (false, eval e X.env) :: starEach [.Tuple [.Name x px, .Name y py] kk pt] X.env := by rfl)
    (he2 : starEach [Expr.Tuple [.Name x px, .Name y py] kk pt] X.env = (false, eval (.Tuple [.Name x px, .Name y py] kk pt) X.env) :: starEach [] X.env := by rfl)
    (he3 : starEach [Expr.Name x px, .Name y py] X.env = (false, eval (.Name x px) X.env) :: starEach [.Name y py] X.env := by rfl) (he4 : starEach [Expr.Name y py] X.env = (false, eval (.Name y py) X.env) :: starEach [] X.env := by rfl)
    (hpl : (backTo pos (starEach [.Tuple [.Name x px, .Name y py] kk pt] X.env)).any (·.1) = false := by rfl) :
    ME X C (.Call (.Name "isinstance" p) [e, .Tuple [.Name x px, .Name y py] kk pt] [] pos) (tCB (rIsiT C.K) (tCons te (tCons (tTup (tCons (tC (.ty T)) (tCons (tC (.ty U)) tNil))) tNil))) (mIsi2 T U m) := by
  refine ⟨by
    have q := pe_callB (p := p) (pos := pos) call_isiT hg hm boot_isinstance (pa_cons h.pe (pa_cons (pe_tup (x1 := kk) (pos := pt) (pa_cons (pe_bltn (pos := px) (v := .ty T) hgx hmx hv rfl hn hd) (pa_cons (pe_bltn (pos := py) (v := .ty U) hgy hmy hvy rfl hny hdy) pa_nil he4) he3)) pa_nil he2) he) (by decide) (by decide) he hpl
    rw [h.hK] at q
    exact q, ?_, h.hK⟩
  refine Snd.bind (Rel1 := relO) (t1 := te) (t2 := fun v (σ : L2.St) H1 (Q : VK) => 2 ≤ sizeLine ∧ ∀ p, H1 p = none → rIsiT C.K [v, .ref p] (upd H1 p (.tup [.ty T, .ty U])) Q) h.sn fun Hf H w σ ε S b a Q E rb P => ?_
  split at P
  · rename_i d e
    split at P
    · rename_i k ek
      refine ⟨by rw [sizeLine_eq]; omega, fun p hp => ?_⟩
      have E2 := E.layNew (o := .tup [.ty T, .ty U]) hp
      refine ⟨b, p, [.ty T, .ty U], .type (tyD d), [.type T, .type U], k, rfl, upd_same, .cons (.ty T) (.cons (.ty U) .nil), (((rb.2.view E e).dq E.sub).mono (same_upd hp)).ty, kit_any (Ts := [T, U]) ek, ?_⟩
      exact P Hf _ w (fun _ => False) (.bl k) E2 ((Stp.layNew hp).out fun x z => z.elim .inl False.elim) ⟨fun _ z => z, .bl k⟩
    · exact P.elim
  · exact P.elim

/-! ### len(set(xs)) -/
def keysD : List D → Option (List Key)
  | [] => some []
  | .int i :: ds => (keysD ds).map (.inl i :: ·)
  | .str x :: ds => (keysD ds).map (.inr x :: ·)
  | _ => none
theorem keysD_vs {K : PySem.W.Frag} {H : Hp} : ∀ {vs : List V} {ds : List D} {ks : List Key}, DqAll K H vs ds → keysD ds = some ks → vs = ks.map kV
  | _, _, _, .nil, e => by cases e; rfl
  | _, _, _, .cons (d := d) (ds := ds) a b, e => by
    cases d with
    | int k =>
      unfold keysD at e
      cases q : keysD ds with
      | none => rw [q] at e; cases e
      | some bs =>
        rw [q] at e
        cases e
        cases a
        rw [keysD_vs b q]
        rfl
    | str k =>
      unfold keysD at e
      cases q : keysD ds with
      | none => rw [q] at e; cases e
      | some bs =>
        rw [q] at e
        cases e
        cases a
        rw [keysD_vs b q]
        rfl
    | _ => cases e
def mLenSet (m : M RV) : M RV := fun ε => (m ε).bind fun r ε1 => match view ε1 r with
  | some (.list ds) => (match keysD ds with
    | some ks => if ks.length ≤ 4000 then .ok (.fro (.int (ddK ks).length)) ε1 else .bad
    | none => .bad)
  | _ => .bad
end M3

namespace M3
open PySem PySem.Spec L2
open PyProof.Rows hiding St

/-! ### a value kept over a step -/
theorem relRV.keep {C : Ct} {Hf H Hf' H' : Hp} {w w' : Own} {σ σ' : L2.St} {S o o' : Addr → Prop} {v : V} {r : RV} (h : relRV C Hf H w σ S v r) (st : Stp Hf H o Hf' H' o') (hS : ∀ a, S a → ¬ o a) (hw : ∀ a, O w' a → o' a)
    (hσ : ∀ i, r = .at_ i → σ'[i]? = σ[i]?) : relRV C Hf' H' w' σ' S v r ∧ (∀ a, S a → ¬ o' a) := by
  cases r with
  | fro d => exact ⟨⟨h.1, h.2.mono st.mono⟩, fun a z => absurd z (h.1 a)⟩
  | at_ i => exact ⟨⟨h.1, by rw [hσ i rfl]; exact h.2⟩, fun a z => absurd z (h.1 a)⟩
  | raw u => exact ⟨h, fun a z => absurd z (h.1 a)⟩
  | new ov =>
    obtain ⟨p, rfl, h1, h2, h3⟩ := h
    have kp : ∀ a, S a → H' a = H a ∧ Hf' a = Hf a ∧ ¬ o' a := fun a z => st.rest a (h1.there a z) (hS a z)
    exact ⟨⟨p, rfl, h1.keep st.mono fun a z => (kp a z).1, fun a z => by rw [(kp a z).2.1]; exact h2 a z, fun i a z1 z2 => (kp a z2).2.2 (hw a ⟨i, z1⟩)⟩, fun a z => (kp a z).2.2⟩
theorem relRV.out {C : Ct} {Hf H : Hp} {w : Own} {σ : L2.St} {S : Addr → Prop} {v : V} {r : RV} (h : relRV C Hf H w σ S v r) : ∀ a, S a → ¬ O w a := by
  cases r with
  | fro d => exact fun a z => absurd z (h.1 a)
  | at_ i => exact fun a z => absurd z (h.1 a)
  | raw u => exact fun a z => absurd z (h.1 a)
  | new ov => obtain ⟨p, rfl, h1, h2, h3⟩ := h; exact fun a z ⟨i, y⟩ => h3 i a y z

/-- values in a row, new ones among them -/
inductive RVs (C : Ct) (Hf H : Hp) (w : Own) (σ : L2.St) : (Addr → Prop) → List V → List RV → Prop
  | nil {S : Addr → Prop} : (∀ a, ¬ S a) → RVs C Hf H w σ S [] []
  | cons {S S1 S2 : Addr → Prop} {v : V} {vs : List V} {r : RV} {rs : List RV} : relRV C Hf H w σ S1 v r → RVs C Hf H w σ S2 vs rs → (∀ a, S1 a → ¬ S2 a) → (∀ a, S a ↔ (S1 a ∨ S2 a)) → RVs C Hf H w σ S (v :: vs) (r :: rs)
theorem RVs.out {C : Ct} {Hf H : Hp} {w : Own} {σ : L2.St} : ∀ {S : Addr → Prop} {vs : List V} {rs : List RV}, RVs C Hf H w σ S vs rs → ∀ a, S a → ¬ O w a
  | _, _, _, .nil h => fun a z => absurd z (h a)
  | _, _, _, .cons h1 h2 _ e => fun a z => ((e a).mp z).elim (h1.out a) (RVs.out h2 a)
/-- no slot of these is named -/
def noAt (i : Nat) : List RV → Bool
  | [] => true
  | .at_ j :: rs => !(j == i) && noAt i rs
  | .fro _ :: rs => noAt i rs
  | .raw _ :: rs => noAt i rs
  | .new _ :: rs => noAt i rs
theorem RVs.keep {C : Ct} {Hf H Hf' H' : Hp} {w w' : Own} {σ σ' : L2.St} {o o' : Addr → Prop} (st : Stp Hf H o Hf' H' o') (hw : ∀ a, O w' a → o' a) : ∀ {S : Addr → Prop} {vs : List V} {rs : List RV}, RVs C Hf H w σ S vs rs → (∀ a, S a → ¬ o a) → (∀ i, (RV.at_ i) ∈ rs → σ'[i]? = σ[i]?) →
    RVs C Hf' H' w' σ' S vs rs ∧ (∀ a, S a → ¬ o' a)
  | _, _, _, .nil h, _, _ => ⟨.nil h, fun a z => absurd z (h a)⟩
  | _, _, _, .cons h1 h2 d e, hS, hσ => by
    obtain ⟨q1, q2⟩ := h1.keep st (fun a z => hS a ((e a).mpr (.inl z))) hw (fun i z => hσ i (by rw [z]; exact List.mem_cons_self))
    obtain ⟨q3, q4⟩ := RVs.keep st hw h2 (fun a z => hS a ((e a).mpr (.inr z))) (fun i z => hσ i (List.mem_cons_of_mem _ z))
    exact ⟨.cons q1 q3 d e, fun a z => ((e a).mp z).elim (q2 a) (q4 a)⟩
def relRVs : Rl (List RV) (List V) := fun C Hf H w σ S vs rs => RVs C Hf H w σ S vs rs
theorem snd_rnil {C : Ct} : Snd C relRVs tNil msNil := fun _ _ _ _ _ _ E P => P.here E (.nil fun _ z => z)
theorem snd_rcons {C : Ct} {ta : TE} {m : M RV} {tr : TA} {ms : M (List RV)} (h1 : Snd C relRV ta m) (h2 : Snd C relRVs tr ms) : Snd C relRVs (tCons ta tr) (msCons m ms) := by
  intro Hf H w σ ε Q E P
  refine h1 Hf H w σ ε _ E ?_
  unfold msCons at P
  cases e : m ε with
  | err x ε1 => rw [e] at P; exact P
  | bad => rw [e] at P; exact P
  | ok r ε1 =>
    rw [e] at P
    intro Hf1 H1 w1 S b E1 st rb
    refine h2 Hf1 H1 w1 σ ε1 _ E1 ?_
    simp only [R.bind] at P
    cases e2 : ms ε1 with
    | err x ε2 => rw [e2] at P; exact P.step st.noS
    | bad => rw [e2] at P; exact P
    | ok rs ε2 =>
      rw [e2] at P
      replace P : PostX C relRVs Hf H w σ Q (.ok (r :: rs) ε2) := P
      intro Hf2 H2 w2 S2 bs E2 st2 rbs
      obtain ⟨q1, q2⟩ := rb.keep st2 rb.out (fun a z => .inl z) (fun _ _ => rfl)
      refine P Hf2 H2 w2 (fun a => S a ∨ S2 a) (b :: bs) E2 ?_ (.cons q1 rbs (fun a z1 z2 => q2 a z1 (.inr z2)) fun a => Iff.rfl)
      refine ⟨st.mono.trans st2.mono, fun a ha na => ?_⟩
      obtain ⟨r1, r2, r3⟩ := st.rest a ha na
      obtain ⟨t1, t2, t3⟩ := st2.rest a (by rw [r1]; exact ha) (fun z => r3 (.inl z))
      exact ⟨t1.trans r1, t2.trans r2, fun z => z.elim (fun z => t3 (.inl z)) fun z => z.elim (fun z => r3 (.inr z)) fun z => t3 (.inr z)⟩
/-- stores in a row -/
def mStores : List Nat → List RV → En → Option En
  | [], [], ε => some ε
  | i :: is, r :: rs, ε => if noAt i rs = true then (match mStore i r ε with
    | some ε1 => mStores is rs ε1
    | none => none) else none
  | _, _, _ => none
def setAll : List Nat → List V → L2.St → L2.St
  | i :: is, v :: vs, σ => setAll is vs (σ.set i (some v))
  | _, _, σ => σ
theorem noAt_mem {i : Nat} : ∀ {rs : List RV}, noAt i rs = true → ∀ {j : Nat}, (RV.at_ j) ∈ rs → j ≠ i
  | [], _, _, h => by cases h
  | r :: rs, hn, j, h => by
    rcases List.mem_cons.mp h with e | h
    · subst e
      unfold noAt at hn
      have := (Bool.and_eq_true_iff.mp hn).1
      simpa using this
    · refine noAt_mem (rs := rs) ?_ h
      cases r <;> unfold noAt at hn <;> first | exact hn | exact (Bool.and_eq_true_iff.mp hn).2
theorem stores_ok {C : Ct} : ∀ {is : List Nat} {rs : List RV} {Hf H : Hp} {w : Own} {σ : L2.St} {ε ε' : En} {S : Addr → Prop} {vs : List V}, EnR C Hf H w σ ε → RVs C Hf H w σ S vs rs → mStores is rs ε = some ε' → (∀ i ∈ is, C.own.contains i = false) →
    ∃ Hf' w', EnR C Hf' H w' (setAll is vs σ) ε' ∧ ∀ {Hf0 H0 : Hp} {o0 : Addr → Prop}, Stp Hf0 H0 o0 Hf H (fun x => O w x ∨ S x) → Stp Hf0 H0 o0 Hf' H (O w')
  | [], [], Hf, H, w, σ, ε, ε', S, vs, E, h, e, _ => by
    cases h with
    | nil hS => cases e; exact ⟨Hf, w, E, fun st => st.out fun x z => .inl z⟩
  | i :: is, r :: rs, Hf, H, w, σ, ε, ε', S, vs, E, h, e, hf => by
    cases h with
    | cons h1 h2 d eS =>
      rename_i S1 S2 v vs
      unfold mStores at e
      split at e
      · rename_i hn
        split at e
        · rename_i ε1 e1
          obtain ⟨Hf1, w1, E1, st1⟩ := store_ok E h1 e1 (hf i List.mem_cons_self)
          have stp := st1 (Hf0 := Hf) (H0 := H) (o0 := fun x => O w x ∨ S1 x) Stp.refl
          obtain ⟨q1, q2⟩ := RVs.keep (σ' := σ.set i (some v)) stp (fun a z => z) h2 (fun a z y => y.elim (h2.out a z) fun y => d a y z)
            (fun j hj => List.getElem?_set_ne (fun z => (noAt_mem hn hj) z.symm))
          obtain ⟨Hf2, w2, E2, st2⟩ := stores_ok E1 q1 e (fun j hj => hf j (List.mem_cons_of_mem _ hj))
          refine ⟨Hf2, w2, E2, fun {Hf0 H0 o0} st => st2 ?_⟩
          have sA := st1 (st.out fun x z => z.elim .inl fun z => .inr ((eS x).mpr (.inl z)))
          refine ⟨sA.mono, fun a ha na => ?_⟩
          obtain ⟨r1, r2, r3⟩ := sA.rest a ha na
          exact ⟨r1, r2, fun z => z.elim r3 fun z => (st.rest a ha na).2.2 (.inr ((eS a).mpr (.inr z)))⟩
        · cases e
      · cases e
  | [], _ :: _, _, _, _, _, _, _, _, _, _, _, e, _ => by cases e
  | _ :: _, [], _, _, _, _, _, _, _, _, _, _, e, _ => by cases e
def sPar (is : List Nat) (ms : M (List RV)) : Sm := fun ε => (ms ε).toS fun rs ε1 => match mStores is rs ε1 with
  | some ε2 => .nx ε2
  | none => .bad
theorem RVs.two {C : Ct} {Hf H : Hp} {w : Own} {σ : L2.St} {S : Addr → Prop} {vs : List V} {a b : RV} (h : RVs C Hf H w σ S vs [a, b]) : ∃ x y, vs = [x, y] := by
  cases h with
  | cons _ h _ _ => cases h with
    | cons _ h _ _ => cases h; exact ⟨_, _, rfl⟩
theorem RVs.three {C : Ct} {Hf H : Hp} {w : Own} {σ : L2.St} {S : Addr → Prop} {vs : List V} {a b c : RV} (h : RVs C Hf H w σ S vs [a, b, c]) : ∃ x y z, vs = [x, y, z] := by
  cases h with
  | cons _ h _ _ => cases h with
    | cons _ h _ _ => cases h with
      | cons _ h _ _ => cases h; exact ⟨_, _, _, rfl⟩
theorem mStores_len : ∀ {is : List Nat} {rs : List RV} {ε ε' : En}, mStores is rs ε = some ε' → rs.length = is.length := by
  intro is
  induction is with
  | nil => intro rs ε ε' e; cases rs with
    | nil => rfl
    | cons _ _ => cases e
  | cons i is ih => intro rs ε ε' e; cases rs with
    | nil => cases e
    | cons r rs =>
      unfold mStores at e
      split at e
      · split at e
        · exact congrArg Nat.succ (ih e)
        · cases e
      · cases e
theorem snds_par2 {C : Ct} {ta : TA} {ms : M (List RV)} {i j : Nat} (h : Snd C relRVs ta ms) (hi : C.own.contains i = false) (hj : C.own.contains j = false) : SndS C (tPar i j ta) (sPar [i, j] ms) := by
  intro Hf H w σ ε D E P
  refine h.toS E P fun rs ε1 Hf1 H1 w1 S vs _ E1 st rb P1 => ?_
  split at P1
  · rename_i ε2 e2
    obtain ⟨Hf2, w2, E2, st2⟩ := stores_ok E1 rb e2 (by intro k hk; rcases List.mem_cons.mp hk with rfl | hk; exact hi; rcases List.mem_cons.mp hk with rfl | hk; exact hj; cases hk)
    have hl2 := mStores_len e2
    match rs, hl2 with
    | [a, b], _ =>
      obtain ⟨x, y, rfl⟩ := RVs.two rb
      exact ⟨x, y, rfl, P1 Hf2 H1 w2 _ E2 (st2 st)⟩
  · exact P1.elim
theorem snds_par3 {C : Ct} {ta : TA} {ms : M (List RV)} {i j l : Nat} (h : Snd C relRVs ta ms) (hi : C.own.contains i = false) (hj : C.own.contains j = false) (hl : C.own.contains l = false) : SndS C (tPar3 i j l ta) (sPar [i, j, l] ms) := by
  intro Hf H w σ ε D E P
  refine h.toS E P fun rs ε1 Hf1 H1 w1 S vs _ E1 st rb P1 => ?_
  split at P1
  · rename_i ε2 e2
    obtain ⟨Hf2, w2, E2, st2⟩ := stores_ok E1 rb e2 (by intro k hk; rcases List.mem_cons.mp hk with rfl | hk; exact hi; rcases List.mem_cons.mp hk with rfl | hk; exact hj; rcases List.mem_cons.mp hk with rfl | hk; exact hl; cases hk)
    have hl3 := mStores_len e2
    match rs, hl3 with
    | [a, b, c], _ =>
      obtain ⟨x, y, z, rfl⟩ := RVs.three rb
      exact ⟨x, y, z, rfl, P1 Hf2 H1 w2 _ E2 (st2 st)⟩
  · exact P1.elim

/-! ### the rules -/
structure MRs (X : Cx) (C : Ct) (es : List Expr) (t : TA) (ms : M (List RV)) : Prop where
  pa : PA X es t
  sn : Snd C relRVs t ms
section
variable {X : Cx} {C : Ct} {e a b c : Expr} {es : List Expr} {te : TE} {m : M RV} {tr : TA} {ms : M (List RV)} {pos : Pos}
theorem mrs_nil : MRs X C [] tNil msNil := ⟨pa_nil, snd_rnil⟩
theorem mrs_cons (h1 : ME X C e te m) (h2 : MRs X C es tr ms) (hs : starEach (e :: es) X.env = (false, eval e X.env) :: starEach es X.env := by rfl) : MRs X C (e :: es) (tCons te tr) (msCons m ms) := ⟨pa_cons h1.pe h2.pa hs, snd_rcons h1.sn h2.sn⟩
theorem ms_par2 {x y : Str} {px py pt : Pos} {kt k2 : Nat} {pt2 : Pos} (i j : Nat) (hN : X.N.Nodup) (h : MRs X C [a, b] tr ms) (hi : X.N[i]? = some x := by rfl) (hj : X.N[j]? = some y := by rfl) (hij : i ≠ j := by decide)
    (hx : X.env.scope.names.lookup x = some .local := by rfl) (hy : X.env.scope.names.lookup y = some .local := by rfl)
    (hw : swappedStores [.Tuple [.Name x px, .Name y py] kt pt] (.Tuple [a, b] k2 pt2) X.env = pure (some [x, y]) := by rfl)
    (hs : swapsWithSole [.Tuple [.Name x px, .Name y py] kt pt] (.Tuple [a, b] k2 pt2) pos.line X.env = pure false := by rfl) (hc : X.calm = true := by rfl) (oi : C.own.contains i = false := by rfl) (oj : C.own.contains j = false := by rfl) :
    MS X C (.Assign [.Tuple [.Name x px, .Name y py] kt pt] (.Tuple [a, b] k2 pt2) pos) (tPar i j tr) (sPar [i, j] ms) := ⟨ps_par hc hN hi hj hij hx hy h.pa hw hs, snds_par2 h.sn oi oj⟩
theorem ms_par3 {x y z : Str} {px py pz pt : Pos} {kt k2 : Nat} {pt2 : Pos} (i j l : Nat) (hN : X.N.Nodup) (h : MRs X C [a, b, c] tr ms) (hi : X.N[i]? = some x := by rfl) (hj : X.N[j]? = some y := by rfl) (hl : X.N[l]? = some z := by rfl) (hij : i ≠ j := by decide) (hil : i ≠ l := by decide) (hjl : j ≠ l := by decide)
    (hx : X.env.scope.names.lookup x = some .local := by rfl) (hy : X.env.scope.names.lookup y = some .local := by rfl) (hz : X.env.scope.names.lookup z = some .local := by rfl)
    (hw : swappedStores [.Tuple [.Name x px, .Name y py, .Name z pz] kt pt] (.Tuple [a, b, c] k2 pt2) X.env = pure (some [x, y, z]) := by rfl)
    (hs : swapsWithSole [.Tuple [.Name x px, .Name y py, .Name z pz] kt pt] (.Tuple [a, b, c] k2 pt2) pos.line X.env = pure false := by rfl) (hc : X.calm = true := by rfl) (oi : C.own.contains i = false := by rfl) (oj : C.own.contains j = false := by rfl) (ol : C.own.contains l = false := by rfl) :
    MS X C (.Assign [.Tuple [.Name x px, .Name y py, .Name z pz] kt pt] (.Tuple [a, b, c] k2 pt2) pos) (tPar3 i j l tr) (sPar [i, j, l] ms) := ⟨ps_par3 hc hN hi hj hl hij hil hjl hx hy hz h.pa hw hs, snds_par3 h.sn oi oj ol⟩
end

/-! ### a call with ints as defaults behind the written arguments -/
def msApp (is : List Int) (ms : M (List RV)) : M (List RV) := fun ε => (ms ε).bind fun rs ε1 => .ok (rs ++ is.map fun i => .fro (.int i)) ε1
theorem opRs.app {C : Ct} {Hf : Hp} {σ : L2.St} {is : List Int} : ∀ {vs : List V} {rs : List RV}, opRs C Hf σ vs rs → opRs C Hf σ (vs ++ is.map V.int) (rs ++ is.map fun i => .fro (.int i))
  | _, _, .nil => by
    induction is with
    | nil => exact .nil
    | cons i is ih => exact .cons (.int i) ih
  | _, _, .cons a b => .cons a (opRs.app b)
end M3

namespace M3
open PySem PySem.Spec L2
open PyProof.Rows hiding St

/-! ### the laws' state {'cells': [ints], 'turn': int} -/
section
variable {C : Ct} {Hf H : Hp} {w : Own} {σ : L2.St} {ε : En} {i : Nat} {cs : List Int} {t : Int}
abbrev stKvs (q : Addr) (t : V) : List (Key × V) := [(.inr "cells", .ref q), (.inr "turn", t)]
theorem EnR.ownSt (E : EnR C Hf H w σ ε) (e : ε[i]? = some (some (.own (.st cs t)))) :
    ∃ p q, q ≠ p ∧ σ[i]? = some (some (.ref p)) ∧ H p = some (.dK (stKvs q (.int t))) ∧ H q = some (.lst (cs.map .int)) ∧ (∀ a, w i a ↔ (a = p ∨ a = q)) ∧ Hf p = none ∧ Hf q = none := by
  have z := E.slot i
  rw [e] at z
  obtain ⟨p, h1, q, h2, h3, h4, h5⟩ := z
  exact ⟨p, q, h2, h1, h4, h5, h3, E.fre i p ((h3 p).mpr (.inl rfl)), E.fre i q ((h3 q).mpr (.inr rfl))⟩
theorem EnR.setSt (E : EnR C Hf H w σ ε) (e : ε[i]? = some (some (.own (.st cs t)))) {p q x : Addr} {o : HO} {cs' : List Int} {t' : Int} (hp : σ[i]? = some (some (.ref p))) (hq : H p = some (.dK (stKvs q (.int t)))) (hx : x = p ∨ x = q)
    (hs : ∃ S : Addr → Prop, (∀ a, S a ↔ (a = p ∨ a = q)) ∧ OwnR C.K Hf (upd H x o) p S (.st cs' t')) :
    ∃ w', EnR C Hf (upd H x o) w' σ (ε.set i (some (.own (.st cs' t')))) ∧ Stp Hf H (O w) Hf (upd H x o) (O w') := by
  obtain ⟨p', q', h0, h1, h2, h3, h4, h5, h6⟩ := E.ownSt e
  rw [hp] at h1
  cases h1
  rw [hq] at h2
  cases h2
  obtain ⟨S, hS, hO⟩ := hs
  have hfx : Hf x = none := by rcases hx with rfl | rfl <;> assumption
  have nf : ∀ b o, Hf b = some o → b ≠ x := fun b o q z => by rw [z, hfx] at q; cases q
  have sw : ∀ a, S a ↔ w i a := fun a => (hS a).trans (h4 a).symm
  have wx : w i x := (h4 x).mpr hx
  refine ⟨wSet w i S, ?_, ⟨Same.refl _, fun a ha na => ⟨?_, rfl, ?_⟩⟩⟩
  · have z := E.put (Hf' := Hf) (H' := upd H x o) (S := S) (lt_of_get hp) (Same.refl _) (fun b o q => by rw [upd_ne (nf b o q)]; exact E.sub b o q)
      (fun j a hj hw => upd_ne fun z => hj (E.sep j i a hw (by rw [z]; exact wx))) (some (.ref p)) (some (.own (.st cs' t'))) ⟨p, rfl, hO⟩
      (fun j a hj hw z => hj (E.sep j i a hw ((sw a).mp z))) (fun j a _ hw => E.fre j a hw) (fun a z => E.fre i a ((sw a).mp z))
      (fun hc v hv => by
        have := E.fix i v hc hv
        rw [hp] at this
        exact Option.some.inj this)
    rw [set_same hp] at z
    exact z
  · exact upd_ne fun z => na ⟨i, by rw [z]; exact wx⟩
  · rintro ⟨j, ⟨e1, z⟩ | ⟨n, z⟩⟩
    · exact na ⟨i, (sw a).mp z⟩
    · exact na ⟨j, z⟩
theorem val_cells {q : Addr} {t : V} : valV (stKvs q t) (.inr "cells") = some (.ref q) := valV_pos rfl
theorem val_turn {q : Addr} {t : V} : valV (stKvs q t) (.inr "turn") = some t := by
  rw [valV_neg (fun e => absurd (Sum.inr.inj e) (by decide))]
  exact valV_pos rfl
theorem put_turn {q : Addr} {t t' : V} : putK (stKvs q t) (.inr "turn") t' = stKvs q t' := by
  unfold putK
  have n : ¬ ((.inr "cells" : Key) = .inr "turn") := fun e => absurd (Sum.inr.inj e) (by decide)
  rw [if_pos (by simp)]
  simp only [List.map_cons, List.map_nil, if_neg n, if_true]
end
/-- state['turn'], len(state['cells']), state['cells'][k] -/
def mStTurn (i : Nat) : M RV := fun ε => match ε[i]? with
  | some (some (.own (.st _ t))) => .ok (.fro (.int t)) ε
  | _ => .bad
def mStLen (i : Nat) : M RV := fun ε => match ε[i]? with
  | some (some (.own (.st cs _))) => .ok (.fro (.int cs.length)) ε
  | _ => .bad
def mStCell (i j : Nat) : M RV := fun ε => match ε[i]?, ε[j]? with
  | some (some (.own (.st cs _))), some (some (.fro (.int k))) => (match atI cs k with
    | some c => .ok (.fro (.int c)) ε
    | none => .bad)
  | _, _ => .bad
def sStTurn (i : Nat) (m : M RV) : Sm := fun ε => (m ε).toS fun r ε1 => match ε1[i]?, view ε1 r with
  | some (some (.own (.st cs _))), some (.int t) => .nx (ε1.set i (some (.own (.st cs t))))
  | _, _ => .bad
/-- state['cells'][k], d = divmod(a, b) -/
def sStPut (i d jk : Nat) (ma mb : M RV) : Sm := fun ε => (ma ε).toS fun ra ε1 => (mb ε1).toS fun rb ε2 => match view ε2 ra, view ε2 rb, ε2[i]?, ε2[jk]? with
  | some (.int a), some (.int b), some (some (.own (.st cs t))), some (some (.fro (.int k))) => if 0 < b ∧ b.natAbs.log2 < 9000 ∧ d < ε2.length ∧ d ≠ i then
      (match ixN cs.length k with
        | some j => .nx ((ε2.set i (some (.own (.st (cs.set j (a / b)) t)))).set d (some (.fro (.int (a % b)))))
        | none => .bad)
    else .bad
  | _, _, _, _ => .bad
/-- return {'cells': cells, 'turn': 0} -/
def sRetSt (j : Nat) (t : Int) : Sm := fun ε => match ε[j]? with
  | some (some (.own (.lst ds))) => (match intsD ds with
    | some cs => .rt (.new (.st cs t)) (ε.set j none)
    | none => .bad)
  | _ => .bad

section
variable {X : Cx} {C : Ct} {x : Str} {px ps pos : Pos} {js : Nat} {kk : Nat}
theorem noSl_str {z : Str} : NoSl (.Constant (.str z) js pos) := fun _ _ => rfl
theorem me_stTurn {k : Nat} (i : Nat) (hr : Room k X.A) (hN : X.N[i]? = some x := by rfl) (hv : Vis X.env.scope x := by first | exact Or.inl rfl | exact Or.inr (Or.inl rfl) | exact Or.inr (Or.inr rfl)) (hd : (x == ("__debug__" : Str)) = false := by decide)
    (hcd : (x == ("__classdict__" : Str)) = false := by decide) (hK : X.K = C.K := by rfl) : ME X C (.Subscript (.Name x px) (.Constant (.str "turn") js ps) pos) (tDGet (tVar i) (tC (.str "turn"))) (mStTurn i) := by
  refine ⟨pe_dget (hu_of hr) (pe_var hN hv hd hcd) pe_str noSl_str, fun Hf H w σ ε Q E P => ?_, hK⟩
  unfold mStTurn at P
  split at P
  · rename_i cs t e
    obtain ⟨p, q, h0, h1, h2, h3, h4, h5, h6⟩ := E.ownSt e
    refine ⟨.ref p, h1, p, .int t, rfl, ?_, P.here E ⟨fun _ z => z, .int t⟩⟩
    have := DGet.k (k := (.inr "turn" : Key)) h2
    rw [val_turn] at this
    exact this
  · exact P.elim
theorem me_stLen {k : Nat} {p1 pc : Pos} (i : Nat) (hr : Room k X.A) (hm : X.mg "len" = none) (hg : Gl X "len" := by rfl) (hN : X.N[i]? = some x := by rfl) (hv : Vis X.env.scope x := by first | exact Or.inl rfl | exact Or.inr (Or.inl rfl) | exact Or.inr (Or.inr rfl)) (hd : (x == ("__debug__" : Str)) = false := by decide)
    (hcd : (x == ("__classdict__" : Str)) = false := by decide) (hK : X.K = C.K := by rfl) (he : starEach [Expr.Subscript (.Name x px) (.Constant (.str "cells") js ps) pos] X.env = (false, eval (.Subscript (.Name x px) (.Constant (.str "cells") js ps) pos) X.env) :: starEach [] X.env := by rfl) :
    ME X C (.Call (.Name "len" p1) [.Subscript (.Name x px) (.Constant (.str "cells") js ps) pos] [] pc) (tCB (fun xs H Q => ∃ p ys, xs = [.ref p] ∧ (SqL X.K H p ys ∨ SqT X.K H p ys) ∧ Q (.int ys.length) H) (tCons (tDGet (tVar i) (tC (.str "cells"))) tNil)) (mStLen i) := by
  refine ⟨pe_callB call_len_seq hg hm PySem.boot_len (pa_cons (pe_dget (hu_of hr) (pe_var hN hv hd hcd) pe_str noSl_str) pa_nil he) (by decide) (by decide) he rfl, fun Hf H w σ ε Q E P => ?_, hK⟩
  unfold mStLen at P
  split at P
  · rename_i cs t e
    obtain ⟨p, q, h0, h1, h2, h3, h4, h5, h6⟩ := E.ownSt e
    refine ⟨.ref p, h1, p, .ref q, rfl, ?_, q, cs.map .int, rfl, .inl (SqL.of h3), by rw [List.length_map]; exact P.here E ⟨fun _ z => z, .int _⟩⟩
    have := DGet.k (k := (.inr "cells" : Key)) h2
    rw [val_cells] at this
    exact this
  · exact P.elim
theorem at_ints {cs : List Int} {k c : Int} (h : L2.atI cs k = some c) : L2.atI (cs.map V.int) k = some (.int c) := by
  unfold L2.atI at h ⊢
  rw [List.length_map]
  cases z : ixN cs.length k with
  | none => rw [z] at h; cases h
  | some j =>
    rw [z] at h
    have h' : cs[j]? = some c := h
    show (cs.map V.int)[j]? = _
    rw [List.getElem?_map, h']
    rfl
theorem EnR.fro_int (E : EnR C Hf H w σ ε) {j : Nat} {k : Int} (e : ε[j]? = some (some (.fro (.int k)))) : σ[j]? = some (some (.int k)) := by
  have q := E.slot j
  rw [e] at q
  obtain ⟨_, v, h1, h2⟩ := q
  cases h2
  exact h1
theorem me_stCell {k : Nat} {y : Str} {py : Pos} {pos2 : Pos} (i j : Nat) (hr : Room k X.A) (hN : X.N[i]? = some x := by rfl) (hv : Vis X.env.scope x := by first | exact Or.inl rfl | exact Or.inr (Or.inl rfl) | exact Or.inr (Or.inr rfl)) (hNy : X.N[j]? = some y := by rfl) (hvy : Vis X.env.scope y := by first | exact Or.inl rfl | exact Or.inr (Or.inl rfl) | exact Or.inr (Or.inr rfl))
    (hd : (x == ("__debug__" : Str)) = false := by decide) (hcd : (x == ("__classdict__" : Str)) = false := by decide) (hdy : (y == ("__debug__" : Str)) = false := by decide) (hcdy : (y == ("__classdict__" : Str)) = false := by decide) (hK : X.K = C.K := by rfl) :
    ME X C (.Subscript (.Subscript (.Name x px) (.Constant (.str "cells") js ps) pos) (.Name y py) pos2) (tOp (rIxL X.K) (tDGet (tVar i) (tC (.str "cells"))) (tVar j)) (mStCell i j) := by
  refine ⟨pe_ix ix_list (pe_dget (hu_of hr) (pe_var hN hv hd hcd) pe_str noSl_str) (pe_var hNy hvy hdy hcdy) (fun _ _ => rfl), fun Hf H w σ ε Q E P => ?_, hK⟩
  unfold mStCell at P
  split at P
  · rename_i cs t kv e e2
    obtain ⟨p, q, h0, h1, h2, h3, h4, h5, h6⟩ := E.ownSt e
    split at P
    · rename_i c ec
      refine ⟨.ref p, h1, p, .ref q, rfl, ?_, .int kv, E.fro_int e2, q, cs.map .int, kv, .int c, rfl, rfl, SqL.of h3, at_ints ec, P.here E ⟨fun _ z => z, .int c⟩⟩
      have := DGet.k (k := (.inr "cells" : Key)) h2
      rw [val_cells] at this
      exact this
    · exact P.elim
  · exact P.elim
theorem ms_stTurn {k : Nat} {e : Expr} {te : TE} {m : M RV} {tpos : Pos} (i : Nat) (hr : Room k X.A) (h : MO X C e te m) (hN : X.N[i]? = some x := by rfl) (hv : Vis X.env.scope x := by first | exact Or.inl rfl | exact Or.inr (Or.inl rfl) | exact Or.inr (Or.inr rfl)) (hd : (x == ("__debug__" : Str)) = false := by decide)
    (hcd : (x == ("__classdict__" : Str)) = false := by decide) (hs : swapsWith e (some (.Subscript (.Name x px) (.Constant (.str "turn") js ps) tpos)) pos.line X.env = pure false := by rfl) :
    MS X C (.Assign [.Subscript (.Name x px) (.Constant (.str "turn") js ps) tpos] e pos) (sDPut (tVar i) (tC (.str "turn")) te) (sStTurn i m) := by
  refine ⟨ps_dput (hu_of hr) (pe_var hN hv hd hcd) pe_str h.pe hs, fun Hf H w σ ε D E P => ?_⟩
  refine h.sn.toS E P fun r ε1 Hf1 H1 w1 S b _ E1 st rb P1 => ?_
  split at P1
  · rename_i cs t t' e1 e2
    obtain ⟨p, q, h0, h1, h2, h3, h4, h5, h6⟩ := E1.ownSt e1
    have qk := (rb.2.view E1 e2).int
    subst qk
    have ho : OwnR C.K Hf1 (upd H1 p (.dK (stKvs q (.int t')))) p (w1 i) (.st cs t') := ⟨q, h0, h4, upd_same, by rw [upd_ne h0]; exact h3⟩
    obtain ⟨w2, E2, st2⟩ := E1.setSt e1 h1 h2 (.inl rfl) ⟨_, h4, ho⟩
    refine ⟨.ref p, h1, p, _, rfl, .inl ⟨_, .inr "turn", h2, rfl, by rw [sizeLine_eq]; simp, rfl⟩, ?_⟩
    rw [put_turn]
    exact P1 Hf1 _ w2 σ E2 (st.noS.trans st2)
  · exact P1.elim
theorem ms_stPut {k : Nat} {a b : Expr} {ta tb : TE} {ma mb : M RV} {y z : Str} {py pz p1 pc pt pt2 pos2 : Pos} {kk : Nat} (i d jk : Nat) (hr : Room k X.A) (hND : X.N.Nodup) (hm : X.mg "divmod" = none) (h1 : MO X C a ta ma) (h2 : MO X C b tb mb) (hg : Gl X "divmod" := by rfl)
    (hN : X.N[i]? = some x := by rfl) (hv : Vis X.env.scope x := by first | exact Or.inl rfl | exact Or.inr (Or.inl rfl) | exact Or.inr (Or.inr rfl)) (hNy : X.N[jk]? = some y := by rfl) (hvy : Vis X.env.scope y := by first | exact Or.inl rfl | exact Or.inr (Or.inl rfl) | exact Or.inr (Or.inr rfl))
    (hd : (x == ("__debug__" : Str)) = false := by decide) (hcd : (x == ("__classdict__" : Str)) = false := by decide) (hdy : (y == ("__debug__" : Str)) = false := by decide) (hcdy : (y == ("__classdict__" : Str)) = false := by decide)
    (hNz : X.N[d]? = some z := by rfl) (hz : Loc X.env.scope z := by first | exact Or.inl rfl | exact Or.inr rfl) (hf : X.fn z = true ∨ X.env.scope.names.lookup z = some .local := by first | exact .inl rfl | exact .inr rfl) (od : C.own.contains d = false := by rfl) (hc : X.calm = true := by rfl)
    (he : starEach [a, b] X.env = (false, eval a X.env) :: starEach [b] X.env := by rfl) (he2 : starEach [b] X.env = (false, eval b X.env) :: starEach [] X.env := by rfl) (hpl : (backTo pc (starEach [b] X.env)).any (·.1) = false := by rfl)
    (hsub : ∀ v, assign (.Subscript (.Subscript (.Name x px) (.Constant (.str "cells") js ps) pos) (.Name y py) pos2) X.env v = (do
      let ov ← holding [v] (eval (.Subscript (.Name x px) (.Constant (.str "cells") js ps) pos) X.env)
      let iv ← holding [v, ov] (eval (.Name y py) X.env)
      standAt pos2
      holding [v, ov, iv] (setItem ov iv v)
      release [v, ov, iv] []) := by intro _; rfl)
    (ha1 : (assignEach [.Subscript (.Subscript (.Name x px) (.Constant (.str "cells") js ps) pos) (.Name y py) pos2, .Name z pz] X.env).map (·.2) = assign (.Subscript (.Subscript (.Name x px) (.Constant (.str "cells") js ps) pos) (.Name y py) pos2) X.env :: (assignEach [Expr.Name z pz] X.env).map (·.2) := by rfl)
    (ha2 : (assignEach [Expr.Name z pz] X.env).map (·.2) = assign (.Name z pz) X.env :: (assignEach [] X.env).map (·.2) := by rfl)
    (hl : (assignEach [.Subscript (.Subscript (.Name x px) (.Constant (.str "cells") js ps) pos) (.Name y py) pos2, .Name z pz] X.env).length = 2 := by rfl) (hst : (assignEach [.Subscript (.Subscript (.Name x px) (.Constant (.str "cells") js ps) pos) (.Name y py) pos2, .Name z pz] X.env).findIdx? (·.1) = none := by rfl)
    (hs : swapsWithSole [.Tuple [.Subscript (.Subscript (.Name x px) (.Constant (.str "cells") js ps) pos) (.Name y py) pos2, .Name z pz] kk pt] (.Call (.Name "divmod" p1) [a, b] [] pc) pt2.line X.env = pure false := by rfl)
    (hw : swappedStores [.Tuple [.Subscript (.Subscript (.Name x px) (.Constant (.str "cells") js ps) pos) (.Name y py) pos2, .Name z pz] kk pt] (.Call (.Name "divmod" p1) [a, b] [] pc) X.env = pure none := by rfl)
    (h3 : (assignEach [.Tuple [.Subscript (.Subscript (.Name x px) (.Constant (.str "cells") js ps) pos) (.Name y py) pos2, .Name z pz] kk pt] X.env).map (·.2) = [assign (.Tuple [.Subscript (.Subscript (.Name x px) (.Constant (.str "cells") js ps) pos) (.Name y py) pos2, .Name z pz] kk pt) X.env] := by rfl) :
    MS X C (.Assign [.Tuple [.Subscript (.Subscript (.Name x px) (.Constant (.str "cells") js ps) pos) (.Name y py) pos2, .Name z pz] kk pt] (.Call (.Name "divmod" p1) [a, b] [] pc) pt2)
      (tAsg (tCB (fun xs H Q => ∃ i j, xs = [.int i, .int j] ∧ CDivP i j ∧ ∀ p, H p = none → Q (.ref p) (upd H p (.tup [.int (i / j), .int (i % j)]))) (tCons ta (tCons tb tNil))) (gTup X.K 2 (gCons (L2.gSub (tDGet (tVar i) (tC (.str "cells"))) (tVar jk) rSetL) (gCons (gName d) gNil)))) (sStPut i d jk ma mb) := by
  refine ⟨ps_asg (pe_callB call_divmodW hg hm boot_divmod (pa_cons h1.pe (pa_cons h2.pe pa_nil he2) he) (by decide) (by decide) he hpl)
    (pg_tup hc (pgs_cons (pg_sub (pe_dget (hu_of hr) (pe_var hN hv hd hcd) pe_str noSl_str) (pe_var hNy hvy hdy hcdy) set_list hsub) (pgs_cons (pg_name hND hNz hz hf) pgs_nil ha2) ha1) hl hst) hs hw h3, fun Hf H w σ ε D E P => ?_⟩
  refine h1.sn.toS E P fun ra ε1 Hf1 H1 w1 S b1 _ E1 st1 rb1 P1 => ?_
  refine h2.sn.toS E1 (P1.step st1.noS) fun rb ε2 Hf2 H2 w2 S2 b2 _ E2 st2 rb2 P2 => ?_
  split at P2
  · rename_i av bv cs t kv ea eb e1 e2
    split at P2
    · rename_i hz4
      obtain ⟨c1, c2, c3, c4⟩ := hz4
      split at P2
      · rename_i j ej
        have qa := ((rb1.2.mono st2.mono).view E2 ea).int
        have qb := (rb2.2.view E2 eb).int
        subst qa
        subst qb
        refine ⟨av, bv, rfl, ⟨c1, PyProof.noPylong_of_log2 c2⟩, fun p hp => ?_⟩
        have E3 := E2.layNew (o := .tup [.int (av / bv), .int (av % bv)]) hp
        obtain ⟨pd, q, g0, g1, g2, g3, g4, g5, g6⟩ := E3.ownSt e1
        have hlen : ixN (cs.map V.int).length kv = some j := by rw [List.length_map]; exact ej
        refine ⟨p, [.int (av / bv), .int (av % bv)], rfl, SqT.of upd_same, rfl, .int (av / bv), [.int (av % bv)], rfl, ?_⟩
        refine ⟨.ref pd, g1, pd, .ref q, rfl, ?_, .int kv, E3.fro_int e2, q, cs.map .int, kv, j, rfl, rfl, g3, hlen, .int (av % bv), [], rfl, rfl, ?_⟩
        · have := DGet.k (k := (.inr "cells" : Key)) g2
          rw [val_cells] at this
          exact this
        · have ho : OwnR C.K Hf2 (upd (upd H2 p (.tup [.int (av / bv), .int (av % bv)])) q (.lst ((cs.map V.int).set j (.int (av / bv))))) pd (w2 i) (.st (cs.set j (av / bv)) t) :=
            ⟨q, g0, g4, by rw [upd_ne g0.symm]; exact g2, by rw [upd_same, List.map_set]⟩
          obtain ⟨w4, E4, st4⟩ := E3.setSt e1 g1 g2 (.inr rfl) ⟨_, g4, ho⟩
          have hd4 : d < σ.length := by rw [E2.len]; exact c3
          obtain ⟨E5, st5⟩ := store_put (S := fun _ => False) (v := .int (av % bv)) E4 hd4 od (.fro (.int (av % bv))) ⟨fun _ z => z, _, rfl, .int _⟩ (fun _ _ _ z => z) (fun _ z => z.elim)
          refine P2 Hf2 _ _ _ E5 (st5 ?_)
          exact (st2.noS.trans ((Stp.layNew hp).out fun x z => .inl z)).trans (st4.out fun x z => z.elim id False.elim)
      · exact P2.elim
    · exact P2.elim
  · exact P2.elim
theorem ms_retSt {y : Str} {py p1 p2 p3 pd : Pos} {k1 k2 k3 : Nat} {t0 : Int} (j : Nat) (hNy : X.N[j]? = some y := by rfl) (hvy : Vis X.env.scope y := by first | exact Or.inl rfl | exact Or.inr (Or.inl rfl) | exact Or.inr (Or.inr rfl)) (hdy : (y == ("__debug__" : Str)) = false := by decide) (hcdy : (y == ("__classdict__" : Str)) = false := by decide) :
    MS X C (.Return (some (.Dict [some (.Constant (.str "cells") k1 p1), some (.Constant (.str "turn") k2 p2)] [.Name y py, .Constant (.int t0) k3 p3] pd)) pos) (tRet (tDisp [(tC (.str "cells"), tVar j), (tC (.str "turn"), tC (.int t0))])) (sRetSt j t0) := by
  refine ⟨ps_ret (pe_disp (pps_cons pe_str (pe_var hNy hvy hdy hcdy) (pps_cons pe_str pe_int pps_nil)) rfl rfl (by simp) (by simp)), fun Hf H w σ ε D E P => ?_⟩
  unfold sRetSt at P
  split at P
  · rename_i ds e
    split at P
    · rename_i cs ec
      intro p hp
      have E1 := E.layNew (o := .dK []) hp
      obtain ⟨q, vs, h1, h2, h3, h4, h5⟩ := E.ownLst e
      have hqp : q ≠ p := fun z => by rw [z, hp] at h2; cases h2
      refine ⟨.ref q, h1, upd_same, stKvs q (.int t0), rfl, by simp, ?_⟩
      have em : mergeK [] (stKvs q (.int t0)) = stKvs q (.int t0) := by
        have n : ¬ ((.inr "cells" : Key) = .inr "turn") := fun e => absurd (Sum.inr.inj e) (by decide)
        unfold mergeK
        simp only [List.foldl_cons, List.foldl_nil, putK]
        simp [n]
      rw [em]
      rw [intsD_vs h3 ec] at h2
      have ho : OwnR C.K Hf (upd H p (.dK (stKvs q (.int t0)))) p (fun a => a = p ∨ a = q) (.st cs t0) := ⟨q, hqp, fun _ => Iff.rfl, upd_same, by rw [upd_ne hqp]; exact h2⟩
      have eu : upd (upd H p (.dK [])) p (.dK (stKvs q (.int t0))) = upd H p (.dK (stKvs q (.int t0))) := by
        funext b
        by_cases hb : b = p
        · rw [hb, upd_same, upd_same]
        · rw [upd_ne hb, upd_ne hb, upd_ne hb]
      rw [eu]
      have E2 := E.layNew (o := .dK (stKvs q (.int t0))) hp
      have E3 := E2.put (Hf' := Hf) (H' := upd H p (.dK (stKvs q (.int t0)))) (S := fun _ => False) (lt_of_get h1) (Same.refl _) E2.sub (fun _ _ _ _ => rfl) (some (.ref q)) none (fun _ z => z) (fun _ _ _ _ z => z)
        (fun j' a _ hw => E2.fre j' a hw) (fun _ z => z.elim) (fun hc v hv => by
          have := E.fix j v hc hv
          rw [h1] at this
          exact Option.some.inj this)
      rw [set_same h1] at E3
      refine P Hf _ _ σ (fun a => a = p ∨ a = q) (.ref p) E3 ⟨Same.refl _, fun a ha na => ?_⟩ ⟨p, rfl, ho, fun a z => ?_, fun i' a hw z => ?_⟩
      · have ap : a ≠ p := fun z => ha (by rw [z]; exact hp)
        have aq : a ≠ q := fun z => na ⟨j, (h5 a).mpr z⟩
        refine ⟨upd_ne ap, rfl, fun z => ?_⟩
        rcases z with ⟨j', ⟨_, z⟩ | ⟨_, z⟩⟩ | z | z
        · exact z
        · exact na ⟨j', z⟩
        · exact ap z
        · exact aq z
      · rcases z with z | z
        · rw [z]; exact same_none E.sub hp
        · rw [z]; exact h4
      · rcases hw with ⟨_, hw⟩ | ⟨n, hw⟩
        · exact hw
        · rcases z with z | z
          · have := E.there hw
            rw [z] at this
            exact this hp
          · exact n (E.sep i' j a hw ((h5 a).mpr z))
    · exact P.elim
  · exact P.elim
end
end M3

namespace M3
open PySem PySem.Spec L2
open PyProof.Rows hiding St

/-! ### a law's head, where no guard stands -/
/-- the object of a script -/
abbrev scrObj (vs : List Value) : Obj := { cls := .type "list", data := .seq vs.toArray }
/-- a law begins: nothing is tracked, or the script alone -/
structure Begins (P : Program) (w : World) (K : PySem.W.Frag) (H : Hp) (a : Addr) (h : Heap) (ns : List Int) : Prop where
  only : L2.Only H
  sees : SqL K H a (ns.map V.int)
  good : HOk P w H h
  lone : ∀ b u, H b = some u → b = a ∧ K.lookup a = none
section
variable {P : Program} {w : World} {K : PySem.W.Frag} {H : Hp} {a : Addr} {h : Heap} {vs : List Value} {ns : List Int}
theorem Begins.bare (B : Begins P w K H a h ns) {b : Addr} (n : b ≠ a) : H b = none :=
  Option.eq_none_iff_forall_ne_some.mpr fun u q => n (B.lone b u q).1
theorem Begins.names (B : Begins P w K H a h ns) (ha : h.get? a = some (scrObj vs)) {b : Addr} {m : Str → Option Value} (N : h.Ns b m) : (hidT h H).Ns b m := by
  obtain ⟨o, es, ep, e, d, more⟩ := N
  have n : b ≠ a := by
    rintro rfl
    cases Option.some.inj (ha.symm.trans e)
    exact absurd d (by simp)
  exact ⟨o, es, ep, hidT_get e (B.bare n), d, more⟩
theorem Begins.kept (B : Begins P w K H a h ns) (KX : K.In h) : K.In (hidT h H) := by
  intro b o e
  refine hidT_get (KX b o e) (Option.eq_none_iff_forall_ne_some.mpr fun u q => ?_)
  obtain ⟨rfl, free⟩ := B.lone b u q
  exact absurd (free.symm.trans e) (by simp)
/-- nothing tracked: the script is an object that the module has of its own -/
theorem begins_own (ha : h.get? a = some (scrObj vs)) (hi : IntsAre vs ns) (hl : ns.length ≤ sizeLine) {o : Obj} (lk : K.lookup a = some o) (e : o = scrObj vs) : Begins P w K (fun _ => none) a h ns where
  only := fun _ => .inl rfl
  sees := .inr ⟨o, vs.toArray, _, lk, by rw [e], by rw [e], by rw [e], by rw [List.size_toArray, hi.length]; exact hl, by simpa using vals_ints hi⟩
  good := fun _ _ z => nomatch z
  lone := fun _ _ z => nomatch z
/-- the script tracked -/
def scrHp (a : Addr) (vs : List Value) (ns : List Int) : Hp := fun b => if b = a then some (.frz (scrObj vs) (.lst (ns.map V.int))) else none
theorem begins_new (ha : h.get? a = some (scrObj vs)) (hi : IntsAre vs ns) (hl : ns.length ≤ sizeLine) (lk : K.lookup a = none) : Begins P w K (scrHp a vs ns) a h ns := by
  have one : ∀ b u, scrHp a vs ns b = some u → b = a ∧ u = .frz (scrObj vs) (.lst (ns.map V.int)) := fun b u z => by
    unfold scrHp at z
    split at z
    · rename_i e
      cases z
      exact ⟨e, rfl⟩
    · cases z
  refine ⟨fun b => ?_, .inl (.inr ⟨scrObj vs, by unfold scrHp; rw [if_pos rfl]⟩), fun b u z => ?_, fun b u z => ⟨(one b u z).1, lk⟩⟩
  · unfold scrHp
    split
    · exact .inr ⟨_, _, rfl⟩
    · exact .inl rfl
  · obtain ⟨rfl, rfl⟩ := one b u z
    exact ⟨ha, by rw [List.length_map]; exact hl, vs, _, vals_ints hi, ha⟩
end
/-- how a law must end -/
abbrev Told (s : Shared) : Result → Shared → Prop := fun r s' => r = .ok (.ret (.bool true)) ∧ OldK s.heap s'.heap ∧ s'.os = s.os ∧ AllBare s'.gens
theorem law_callG {P : Program} {w : World} {K : PySem.W.Frag} {mg mb : Str → Option Value} {CX : CXT} {k : Nat} {fa a : Addr} {fd : FuncData} {x : Str} {sp : Sp} {s : Shared} {vs : List Value} {ns : List Int}
    (KX : K.In s.heap) (main : s.heap.Ns mainGlobals mg) (blt : s.heap.Ns builtinsNs mb) (boot : ∀ x : Str, x ≠ "__name__" → mb x = bootBuiltins x) (lim : s.heap.NoLimit) (gens : s.gens = #[])
    (ha : s.heap.get? a = some (scrObj vs)) (hi : IntsAre vs ns) (hl : ns.length ≤ sizeLine) (room : Room k callerA)
    (F : ∀ base : Heap, K.In base → base.Ns mainGlobals mg → FnG P w K mg base CX k fa fd [x] sp) (binds : ∀ (s : Shared) (u : Value), BindsTo s fd ⟨[u], []⟩ [(x, u)])
    (says : ∀ H : Hp, L2.Only H → SqL K H a (ns.map V.int) → sp [.ref a] H (fun v _ => v = .bl true) fun _ _ _ => False) (none_out : ∀ H e s', CX [] H s (fun _ _ _ => False) e s' → False) :
    codeAny (model P w) callerA (.call (.ref fa) ⟨[.ref a], []⟩) (Told s) s := by
  obtain ⟨H, B⟩ : ∃ H, Begins P w K H a s.heap ns := by
    cases lk : K.lookup a with
    | none => exact ⟨_, begins_new ha hi hl lk⟩
    | some o => exact ⟨_, begins_own ha hi hl lk (Option.some.inj ((KX a o lk).symm.trans ha))⟩
  have kin := B.kept KX
  have nsm := B.names ha main
  have md : Mod K mg (hidT s.heap H) := by
    obtain ⟨mc, n1, n2⟩ := lim
    exact ⟨kin, nsm, ⟨mb, B.names ha blt, boot⟩, mc, B.names ha n1, n2⟩
  have env : Env0 P w K mg (hidT s.heap H) callerA [] s H := ⟨rfl, md, fun b o e => of_hidT e, Nat.le_of_eq (hidT_size _ _), trivial, (fun b z => nomatch (show b ∈ ([] : List Addr) from z)), B.good, .of_eq gens⟩
  refine codeAny_mono ((F _ kin nsm).run callerA [] s H ⟨[.ref a], []⟩ [.ref a] [.ref a] _ _ room rfl env (binds s (.ref a)) (.cons rfl .nil) (says H B.only B.sees)) ?_
  rintro (e | fl) s' got
  · exact (none_out H e s' got).elim
  cases fl with
  | ret u =>
    obtain ⟨v, H2, os, gens2, un, good2, rel, rfl⟩ := got
    obtain rfl : u = Value.bool true := rel
    refine ⟨rfl, OldK.of_keep fun b o e => ?_, os, gens2⟩
    rcases B.only b with z | ⟨ob, xs, z⟩
    · exact un.keep b o e z (fun q => nomatch (show b ∈ ([] : List Addr) from q)) (by simp)
    · have e1 := (B.good b _ z).1
      have e2 := (good2 b _ (un.frzs b ob _ z)).1
      rw [e2, ← e1, e]
  | _ => exact False.elim got
theorem walk_ofG {l : PySem.W.OpenLaw} {n k : Nat} {q : Program} {loose : List Str} {XP : (Str → Option Value) → Heap → Prop} {YP : World → Heap → Prop} {d : DefRec} {K : Params → PySem.W.Frag} {CX : World → CXT} {sp : World → Sp} {x : Str}
    (hn : l.most = some n) (hn2 : n ≤ sizeLine) (hdf : d.params.defaults = []) (hr : Room k callerA)
    (hY : ∀ (w : World) (h : Heap), YP w h → (K w.params).In h)
    (F : ∀ (w : World) (mg : Str → Option Value) (fa : Addr) (h : Heap), (K w.params).In h → h.Ns mainGlobals mg → mg d.name = some (.ref fa) →
      ∃ fd : FuncData, (∀ (s : Shared) (u : Value), BindsTo s fd ⟨[u], []⟩ [(x, u)]) ∧
        ∀ base : Heap, (K w.params).In base → base.Ns mainGlobals mg → FnG l.prog w (K w.params) mg base (CX w) k fa fd [x] (sp w))
    (hsp : ∀ (w : World) (H : Hp) (a : Addr) (ns : List Int), ns.length ≤ n → L2.Only H → SqL (K w.params) H a (ns.map V.int) → sp w [.ref a] H (fun v _ => v = .bl true) fun _ _ _ => False)
    (hCX : ∀ (w : World) (H : Hp) (s : Shared) (e : Value) (s' : Shared), CX w [] H s (fun _ _ _ => False) e s' → False) :
    PySem.W.WalkO q loose XP YP l.row.toRowW d [] (fun f vs => PySem.call f vs) := by
  refine Att.attach_call hn hdf fun w s₀ s₁ mg mb fa o pm cd doc a vs ns G Y ho hd hcd hmg hobj hints hlen hg => ?_
  have KX := hY w _ Y
  obtain ⟨fd, hb, hF⟩ := F w mg fa _ KX G.T.g hmg
  exact law_callG KX G.T.g G.T.b G.T.builtins G.T.nolimit hg hobj hints (Nat.le_trans hlen hn2) hr hF hb (fun H hO hS => hsp w H a ns hlen hO hS) fun H e s' => hCX w H s₁ e s'

/-! ### the script -/
section
variable {X : Cx} {C : Ct} {x : Str} {px pos : Pos}
theorem EnR.scr {C : Ct} {Hf H : Hp} {w : Own} {σ : L2.St} {ε : En} (E : EnR C Hf H w σ ε) {i : Nat} {ns : List Int} (e : ε[i]? = some (some (.scr ns))) : ∃ p, σ[i]? = some (some (.ref p)) ∧ SqL C.K Hf p (ns.map V.int) := by
  have q := E.slot i
  rw [e] at q
  exact q.2
theorem dq_ints {K : PySem.W.Frag} {H : Hp} : ∀ ns : List Int, DqAll K H (ns.map V.int) (ns.map PyData.int)
  | [] => .nil
  | n :: ns => .cons (.int n) (dq_ints ns)
def mScrSl (i : Nat) (lo hi : M (Option Int)) : M RV := fun ε => match ε[i]? with
  | some (some (.scr ns)) => (lo ε).bind fun l ε2 => (hi ε2).bind fun h ε3 => outR (some (.newl (cutD (ns.map PyData.int) l h))) ε3
  | _ => .bad
theorem me_scrSl {lo hi : Option Expr} {tl th : TO} {ml mh : M (Option Int)} {p2 : Pos} (i : Nat) (hl : MPo X C lo tl ml) (hh : MPo X C hi th mh) (hN : X.N[i]? = some x := by rfl) (hv : Vis X.env.scope x := by first | exact Or.inl rfl | exact Or.inr (Or.inl rfl) | exact Or.inr (Or.inr rfl)) (hd : (x == ("__debug__" : Str)) = false := by decide)
    (hcd : (x == ("__classdict__" : Str)) = false := by decide) (hK : X.K = C.K := by rfl) : ME X C (.Subscript (.Name x px) (.Slice lo hi none p2) pos) (tSl (rSlL C.K) (tVar i) tl th) (mScrSl i ml mh) := by
  refine ⟨by have q := pe_slice (p2 := p2) (pos := pos) sl_list (pe_var (pos := px) hN hv hd hcd) hl.po hh.po; rw [hK] at q; exact q, fun Hf H w σ ε Q E P => ?_, hK⟩
  unfold mScrSl at P
  split at P
  · rename_i ns e
    obtain ⟨p, h1, h2⟩ := E.scr e
    refine ⟨.ref p, h1, hl.sn Hf H w σ ε _ E ?_⟩
    cases e2 : ml ε with
    | err x ε2 => rw [e2] at P; exact P
    | bad => rw [e2] at P; exact P
    | ok l ε2 =>
      rw [e2] at P
      intro Hf2 H2 w2 S2 b2 E2 st2 rb2
      obtain ⟨_, rfl⟩ := rb2
      refine hh.sn Hf2 H2 w2 σ ε2 _ E2 ?_
      have P2 := P.step st2.noS
      simp only [R.bind] at P2
      cases e3 : mh ε2 with
      | err x ε3 => rw [e3] at P2; exact P2
      | bad => rw [e3] at P2; exact P2
      | ok h ε3 =>
        rw [e3] at P2
        intro Hf3 H3 w3 S3 b3 E3 st3 rb3
        obtain ⟨_, rfl⟩ := rb3
        have P3 := P2.step st3.noS
        simp only at P3
        have s23 : Same Hf H3 := st2.mono.trans (st3.mono.trans E3.sub)
        exact ⟨p, ns.map V.int, rfl, s23.seq h2, fun r hr => OutP.of E3 P3 r _ hr ((dq_ints ns).cut b2 b3)⟩
  · exact P.elim
end
/-- a law's end: its mirror says True on the script -/
theorem law_says {K : PySem.W.Frag} {H : Hp} {a : Addr} {ns : List Int} {F : M RV} {ε' : En} (hS : SqL K H a (ns.map V.int)) (h : F [some (.scr ns)] = .ok (.fro (.bool true)) ε') : spM K 1 F [.ref a] H (fun v _ => v = .bl true) fun _ _ _ => False := by
  refine ⟨rfl, H, fun _ _ => False, [some (.scr ns)], ⟨Same.refl _, fun i => ?_, fun _ _ _ z => z.elim, fun _ _ z => z.elim, rfl, fun _ _ z => by cases z⟩, ?_⟩
  · cases i with
    | zero => exact ⟨fun _ z => z, a, rfl, hS⟩
    | succ i => exact fun _ z => z
  · rw [h]
    intro Hf' H' w' S b E st rb
    cases rb.2
    rfl
theorem hv_of {vs own : List Nat} (h : (vs.all fun i => !own.contains i) = true) : ∀ i, vs.contains i = true → own.contains i = false := by
  intro i hi
  have := List.all_eq_true.mp h i (by simpa using hi)
  simpa using this
def blkChk (N : List Str) (sc scope : Scope) (own : List (Str × Nat)) : Prop :=
  (∀ y ∈ scope.names, scope.names.lookup y.1 = some y.2) ∧ (∀ p ∈ own, N[p.2]? = some p.1) ∧ (∀ y ∈ scope.names, y.2 = .free → sc.names.lookup y.1 = some .cell ∨ sc.names.lookup y.1 = some .free) ∧ (∀ y ∈ scope.names, y.2 = .local ∨ y.2 = .cell → y.1 ∈ own.map (·.1) ∨ y.1 ∉ N)
instance {N : List Str} {sc scope : Scope} {own : List (Str × Nat)} : Decidable (blkChk N sc scope own) := by unfold blkChk; infer_instance
theorem blk_ok {N : List Str} {sc scope : Scope} {own : List (Str × Nat)} (hk : scope.kind = .function) (h : blkChk N sc scope own) : BlkOk N sc scope own := ⟨hk, h.1, h.2.1, h.2.2.1, h.2.2.2⟩
end M3

namespace M3
open PySem PySem.Spec L2
open PyProof.Rows hiding St

/-! ### mirrors worked out by simp -/
section
variable {ε ε' : En} {m m1 m2 m3 : M RV} {ms : M (List RV)} {md : M D} {mds : M (List D)} {c c1 c2 : M Bool} {s1 s2 : Sm} {i j n : Nat} {d e : D}
@[simp] theorem x_bok {α β : Type} (a : α) (f : α → En → R β) : (R.ok a ε).bind f = f a ε := rfl
@[simp] theorem x_berr {α β : Type} (x : Xn) (f : α → En → R β) : (R.err x ε).bind f = .err x ε := rfl
@[simp] theorem x_bbad {α β : Type} (f : α → En → R β) : (R.bad : R α).bind f = .bad := rfl
@[simp] theorem x_sok {α : Type} (a : α) (f : α → En → SR) : (R.ok a ε).toS f = f a ε := rfl
@[simp] theorem x_serr {α : Type} (x : Xn) (f : α → En → SR) : (R.err x ε).toS f = .err x ε := rfl
@[simp] theorem x_sbad {α : Type} (f : α → En → SR) : (R.bad : R α).toS f = .bad := rfl
@[simp] theorem x_oE : oE m ε = (m ε).bind mUnnew := rfl
@[simp] theorem x_fE : fE m ε = (m ε).bind mFrz := rfl
@[simp] theorem x_u1 : mUnnew (.fro d) ε = .ok (.fro d) ε := rfl
@[simp] theorem x_u2 (ds : List D) : mUnnew (.new (.lst ds)) ε = .ok (.fro (.list ds)) ε := rfl
@[simp] theorem x_u3 : mUnnew (.at_ i) ε = .ok (.at_ i) ε := rfl
@[simp] theorem x_u4 (v : V) : mUnnew (.raw v) ε = .ok (.raw v) ε := rfl
@[simp] theorem x_f1 : mFrz (.fro d) ε = .ok d ε := rfl
@[simp] theorem x_f2 : mFrz (.at_ i) ε = (match ε[i]? with
    | some (some (.own (.lst ds))) => .ok (.list ds) (ε.set i (some (.fro (.list ds))))
    | some (some (.fro d)) => .ok d ε
    | _ => .bad) := rfl
@[simp] theorem x_var : mVar i ε = (match ε[i]? with
  | some (some (.fro d)) => .ok (.fro d) ε
  | some (some (.own _)) => .ok (.at_ i) ε
  | some (some (.raw v)) => .ok (.raw v) ε
  | some (some (.scr _)) => .ok (.at_ i) ε
  | _ => .bad) := rfl
@[simp] theorem x_c : mC d ε = .ok (.fro d) ε := rfl
@[simp] theorem x_v1 : view ε (.fro d) = some d := rfl
@[simp] theorem x_v2 : view ε (.at_ i) = (match ε[i]? with
    | some (some (.own (.lst ds))) => some (.list ds)
    | some (some (.fro d)) => some d
    | _ => none) := rfl
@[simp] theorem x_va1 : viewAll ε [] = some [] := rfl
@[simp] theorem x_va2 (r : RV) (rs : List RV) : viewAll ε (r :: rs) = (match view ε r, viewAll ε rs with
    | some d, some ds => some (d :: ds)
    | _, _ => none) := rfl
@[simp] theorem x_o1 : outR (some (.val d)) ε = .ok (.fro d) ε := rfl
@[simp] theorem x_o2 (ds : List D) : outR (some (.newl ds)) ε = .ok (.new (.lst ds)) ε := rfl
@[simp] theorem x_o3 (ds : List D) : outR (some (.newt ds)) ε = .ok (.fro (.tuple ds)) ε := rfl
@[simp] theorem x_o5 : outR none ε = .bad := rfl
@[simp] theorem x_o6 (kvs : List (Key × D)) : outR (some (.newd kvs)) ε = .ok (.new (.dct kvs)) ε := rfl
@[simp] theorem x_msNil : msNil ε = .ok [] ε := rfl
@[simp] theorem x_msCons : msCons m ms ε = (m ε).bind fun r ε1 => (ms ε1).bind fun rs ε2 => .ok (r :: rs) ε2 := rfl
@[simp] theorem x_dsNil : dsNil ε = .ok [] ε := rfl
@[simp] theorem x_dsCons : dsCons md mds ε = (md ε).bind fun d ε1 => (mds ε1).bind fun ds ε2 => .ok (d :: ds) ε2 := rfl
@[simp] theorem x_callB (g : List D → Option Out) : mCallB g ms ε = (ms ε).bind fun rs ε1 => match viewAll ε1 rs with
  | some ds => outR (g ds) ε1
  | none => .bad := rfl
@[simp] theorem x_op (g : D → D → Option Out) : mOp g m1 m2 ε = (m1 ε).bind fun a ε1 => (m2 ε1).bind fun b ε2 => match view ε2 a, view ε2 b with
  | some d, some e => outR (g d e) ε2
  | _, _ => .bad := rfl
@[simp] theorem x_un (g : D → Option Out) : mUn g m ε = (m ε).bind fun a ε1 => match view ε1 a with
  | some d => outR (g d) ε1
  | none => .bad := rfl
@[simp] theorem x_yes : mYes ε = .ok true ε := rfl
@[simp] theorem x_tru : mTru m ε = (m ε).bind fun r ε1 => match (view ε1 r).bind truthD with
  | some k => .ok k ε1
  | none => .bad := rfl
@[simp] theorem x_bl : mBl m ε = (m ε).bind fun r ε1 => match r with
  | .fro (.bool k) => .ok k ε1
  | _ => .bad := rfl
@[simp] theorem x_and : mAnd c1 c2 ε = (c1 ε).bind fun k ε1 => if k = true then c2 ε1 else .ok false ε1 := rfl
@[simp] theorem x_or : mOr c1 c2 ε = (c1 ε).bind fun k ε1 => if k = true then .ok true ε1 else c2 ε1 := rfl
@[simp] theorem x_not : mNot c ε = (c ε).bind fun k ε1 => .ok (!k) ε1 := rfl
@[simp] theorem x_ifE : mIfE c m1 m2 ε = (c ε).bind fun k ε1 => if k = true then m1 ε1 else m2 ε1 := rfl
@[simp] theorem x_t1 : truthD .none = some false := rfl
@[simp] theorem x_t2 (b : Bool) : truthD (.bool b) = some b := rfl
@[simp] theorem x_orV : mOrV m1 m2 ε = (m1 ε).bind fun r ε1 => match (view ε1 r).bind truthD with
  | some k => if k = true then .ok r ε1 else m2 ε1
  | none => .bad := rfl
@[simp] theorem x_andV : mAndV m1 m2 ε = (m1 ε).bind fun r ε1 => match (view ε1 r).bind truthD with
  | some k => if k = true then m2 ε1 else .ok r ε1
  | none => .bad := rfl
@[simp] theorem x_notV : mNotV m ε = (m ε).bind fun r ε1 => match (view ε1 r).bind truthD with
  | some k => .ok (.fro (.bool (!k))) ε1
  | none => .bad := rfl
@[simp] theorem x_chain (g g' : D → D → Option Bool) : mChain g g' m1 m2 m3 ε = (m1 ε).bind fun a ε1 => (m2 ε1).bind fun b ε2 => match view ε2 a, view ε2 b with
  | some d, some e => (match g d e with
    | some k => if k = true then (m3 ε2).bind fun c ε3 => (match view ε3 b, view ε3 c with
        | some e, some f => outR (bo g' e f) ε3
        | _, _ => .bad) else .ok (.fro (.bool false)) ε2
    | none => .bad)
  | _, _ => .bad := rfl
@[simp] theorem x_bo (g : D → D → Option Bool) : bo g d e = (g d e).map fun b => .val (.bool b) := rfl
@[simp] theorem x_lst : mLst mds ε = (mds ε).bind fun ds ε1 => if ds.length ≤ sizeLine then .ok (.new (.lst ds)) ε1 else .bad := rfl
@[simp] theorem x_tup : mTup mds ε = (mds ε).bind fun ds ε1 => if ds.length ≤ sizeLine then .ok (.fro (.tuple ds)) ε1 else .bad := rfl
@[simp] theorem x_noPart : mNoPart ε = .ok none ε := rfl
@[simp] theorem x_part : mPart m ε = (m ε).bind fun r ε1 => match view ε1 r with
  | some (.int i) => .ok (some i) ε1
  | _ => .bad := rfl
@[simp] theorem x_sl (g : D → Option Int → Option Int → Option Out) (lo hi : M (Option Int)) : mSl g m lo hi ε = (m ε).bind fun a ε1 => (lo ε1).bind fun l ε2 => (hi ε2).bind fun h ε3 => match view ε3 a with
  | some d => outR (g d l h) ε3
  | none => .bad := rfl
@[simp] theorem x_rev : mRev m ε = (m ε).bind fun r ε1 => match view ε1 r with
  | some (.list ds) => .ok (.new (.lst ds.reverse)) ε1
  | _ => .bad := rfl
@[simp] theorem x_bm (g : D → List D → Option Out) : mBM g m ms ε = (m ε).bind fun a ε1 => match a with
  | .fro (.str x) => (ms ε1).bind fun rs ε2 => (match viewAll ε2 rs with
    | some ds => outR (g (.str x) ds) ε2
    | none => .bad)
  | _ => .bad := rfl
@[simp] theorem x_isi (T : String) : mIsi T m ε = (m ε).bind fun r ε1 => match view ε1 r with
  | some d => (match isiD d T with
    | some b => .ok (.fro (.bool b)) ε1
    | none => .bad)
  | none => .bad := rfl
@[simp] theorem x_isi2 (T U : String) : mIsi2 T U m ε = (m ε).bind fun r ε1 => match view ε1 r with
  | some d => (match isiAny d [T, U] with
    | some b => .ok (.fro (.bool b)) ε1
    | none => .bad)
  | none => .bad := rfl
@[simp] theorem x_lenSet : mLenSet m ε = (m ε).bind fun r ε1 => match view ε1 r with
  | some (.list ds) => (match keysD ds with
    | some ks => if ks.length ≤ 4000 then .ok (.fro (.int (ddK ks).length)) ε1 else .bad
    | none => .bad)
  | _ => .bad := rfl
@[simp] theorem x_it : mIt md ε = (md ε).bind fun d ε1 => match itemsD d with
  | some ds => .ok ds ε1
  | none => .bad := rfl
@[simp] theorem x_rng1 : mRng1 ms ε = (ms ε).bind fun rs ε1 => match viewAll ε1 rs with
  | some [.int j] => if -(2 ^ 62) ≤ j ∧ j < 2 ^ 62 then .ok (rngD 0 j.toNat) ε1 else .bad
  | _ => .bad := rfl
@[simp] theorem x_lc (mi : M (List D)) (p : Pat) (vs : List Nat) : mLc mi p vs c md ε = (mi ε).bind fun ds ε1 => match lcLoop p vs c md ds [] (wipeE ε1 vs) with
  | .ok acc ε2 => .ok (.new (.lst acc)) (restE ε1 ε2 vs)
  | _ => .bad := rfl
@[simp] theorem x_call (F : M RV) : mCall n F ms ε = (ms ε).bind fun rs ε1 =>
  if rs.length = n ∧ (ats rs).Nodup then
    match argsE ε1 rs with
    | some εc => (match F εc with
      | .ok (.at_ _) _ => .bad
      | .ok (.fro d) εo => if εo.length = n then .ok (.fro d) (wb rs εo ε1) else .bad
      | .ok (.new o) εo => if εo.length = n then .ok (.new o) (wb rs εo ε1) else .bad
      | .ok (.raw v) εo => if εo.length = n then .ok (.raw v) (wb rs εo ε1) else .bad
      | .err x εo => if εo.length = n then .err x (wb rs εo ε1) else .bad
      | .bad => .bad)
    | none => .bad
  else .bad := rfl
@[simp] theorem x_msApp (is : List Int) : msApp is ms ε = (ms ε).bind fun rs ε1 => .ok (rs ++ is.map fun i => .fro (.int i)) ε1 := rfl
@[simp] theorem x_ats0 : ats [] = [] := rfl
@[simp] theorem x_ats1 (rs : List RV) : ats (.at_ i :: rs) = i :: ats rs := rfl
@[simp] theorem x_ats2 (rs : List RV) : ats (.fro d :: rs) = ats rs := rfl
@[simp] theorem x_ae0 : argsE ε [] = some [] := rfl
@[simp] theorem x_ae1 (r : RV) (rs : List RV) : argsE ε (r :: rs) = (match argSV ε r, argsE ε rs with
    | some s, some εc => some (some s :: εc)
    | _, _ => none) := rfl
@[simp] theorem x_as1 : argSV ε (.fro d) = some (.fro d) := rfl
@[simp] theorem x_as2 : argSV ε (.at_ i) = (match ε[i]? with
    | some (some s) => some s
    | _ => none) := rfl
@[simp] theorem x_wb0 (εc : En) : wb [] εc ε = ε := by cases εc <;> rfl
@[simp] theorem x_wb1 (rs : List RV) (e : Option SV) (εc : En) : wb (.at_ i :: rs) (e :: εc) ε = (wb rs εc ε).set i e := rfl
@[simp] theorem x_wb2 (rs : List RV) (e : Option SV) (εc : En) : wb (.fro d :: rs) (e :: εc) ε = wb rs εc ε := rfl
@[simp] theorem x_seq : sSeq s1 s2 ε = (s1 ε).seq s2 := rfl
@[simp] theorem x_q1 : (SR.nx ε).seq s1 = s1 ε := rfl
@[simp] theorem x_q2 (r : RV) : (SR.rt r ε).seq s1 = .rt r ε := rfl
@[simp] theorem x_q3 : (SR.bk ε).seq s1 = .bk ε := rfl
@[simp] theorem x_q4 : (SR.ct ε).seq s1 = .ct ε := rfl
@[simp] theorem x_q5 : SR.bad.seq s1 = .bad := rfl
@[simp] theorem x_q6 (x : Xn) : (SR.err x ε).seq s1 = .err x ε := rfl
@[simp] theorem x_next : sNext ε = .nx ε := rfl
@[simp] theorem x_expr : sExpr m ε = (m ε).toS fun _ ε1 => .nx ε1 := rfl
@[simp] theorem x_ret : sRet m ε = (m ε).toS fun r ε1 => .rt r ε1 := rfl
@[simp] theorem x_if : sIf c s1 s2 ε = (c ε).toS fun k ε1 => if k = true then s1 ε1 else s2 ε1 := rfl
@[simp] theorem x_set : sSet i m ε = (m ε).toS fun r ε1 => match mStore i r ε1 with
  | some ε2 => .nx ε2
  | none => .bad := rfl
@[simp] theorem x_store (r : RV) : mStore i r ε = (if i < ε.length then
    match r with
    | .fro d => some (ε.set i (some (.fro d)))
    | .new o => some (ε.set i (some (.own o)))
    | .raw v => some (ε.set i (some (.raw v)))
    | .at_ j => match ε[j]? with
      | some (some (.own (.lst ds))) => some ((ε.set j (some (.fro (.list ds)))).set i (some (.fro (.list ds))))
      | some (some (.fro d)) => some (ε.set i (some (.fro d)))
      | _ => none
  else none) := rfl
@[simp] theorem x_for (mi : M (List D)) (p : Pat) : sFor mi p s1 ε = (mi ε).toS fun ds ε1 => sLoop p s1 ds ε1 := rfl
@[simp] theorem x_bn : bindP (.nm i) d ε = if i < ε.length then some (ε.set i (some (.fro d))) else none := by unfold bindP; rfl
@[simp] theorem x_bt (ps : List Pat) (ds : List D) : bindP (.tp ps) (.tuple ds) ε = bindPs ps ds ε := by unfold bindP; rfl
@[simp] theorem x_btl (ps : List Pat) (ds : List D) : bindP (.tp ps) (.list ds) ε = bindPs ps ds ε := by unfold bindP; rfl
@[simp] theorem x_bp0 : bindPs [] [] ε = some ε := by unfold bindPs; rfl
@[simp] theorem x_bp1 (p : Pat) (ps : List Pat) (ds : List D) : bindPs (p :: ps) (d :: ds) ε = (match bindP p d ε with
    | some ε1 => bindPs ps ds ε1
    | none => none) := by
  conv => lhs; unfold bindPs
  all_goals rfl
@[simp] theorem x_unp (p : Pat) : sUnp md p ε = (md ε).toS fun d ε1 => match bindP p d ε1 with
  | some ε2 => .nx ε2
  | none => .bad := rfl
@[simp] theorem x_par (is : List Nat) : sPar is ms ε = (ms ε).toS fun rs ε1 => match mStores is rs ε1 with
  | some ε2 => .nx ε2
  | none => .bad := rfl
@[simp] theorem x_sts0 : mStores [] [] ε = some ε := rfl
@[simp] theorem x_sts1 (is : List Nat) (r : RV) (rs : List RV) : mStores (i :: is) (r :: rs) ε = (if noAt i rs = true then (match mStore i r ε with
    | some ε1 => mStores is rs ε1
    | none => none) else none) := rfl
@[simp] theorem x_na0 : noAt i [] = true := rfl
@[simp] theorem x_na1 (rs : List RV) : noAt i (.at_ j :: rs) = (!(j == i) && noAt i rs) := rfl
@[simp] theorem x_na2 (rs : List RV) : noAt i (.fro d :: rs) = noAt i rs := rfl
@[simp] theorem x_na3 (rs : List RV) (o : OV) : noAt i (.new o :: rs) = noAt i rs := rfl
@[simp] theorem x_append : sAppend i md ε = (match ε[i]? with
  | some (some (.own (.lst _))) => (md ε).toS fun d ε1 => (match ε1[i]? with
    | some (some (.own (.lst ds))) => if ds.length < sizeLine then .nx (ε1.set i (some (.own (.lst (ds ++ [d]))))) else .bad
    | _ => .bad)
  | _ => .bad) := rfl
@[simp] theorem x_setItem : sSetItem i m md ε = (md ε).toS fun d ε1 => match ε1[i]? with
  | some (some (.own (.lst _))) => (m ε1).toS fun r ε2 => (match ε2[i]?, view ε2 r with
    | some (some (.own (.lst ds))), some (.int k) => (match ixN ds.length k with
      | some j => .nx (ε2.set i (some (.own (.lst (ds.set j d)))))
      | none => .bad)
    | _, _ => .bad)
  | _ => .bad := rfl
@[simp] theorem x_stTurn : mStTurn i ε = (match ε[i]? with
  | some (some (.own (.st _ t))) => .ok (.fro (.int t)) ε
  | _ => .bad) := rfl
@[simp] theorem x_stLen : mStLen i ε = (match ε[i]? with
  | some (some (.own (.st cs _))) => .ok (.fro (.int cs.length)) ε
  | _ => .bad) := rfl
@[simp] theorem x_stCell : mStCell i j ε = (match ε[i]?, ε[j]? with
  | some (some (.own (.st cs _))), some (some (.fro (.int k))) => (match atI cs k with
    | some c => .ok (.fro (.int c)) ε
    | none => .bad)
  | _, _ => .bad) := rfl
@[simp] theorem x_sTurn : sStTurn i m ε = (m ε).toS fun r ε1 => match ε1[i]?, view ε1 r with
  | some (some (.own (.st cs _))), some (.int t) => .nx (ε1.set i (some (.own (.st cs t))))
  | _, _ => .bad := rfl
@[simp] theorem x_stPut (k : Nat) : sStPut i j k m1 m2 ε = (m1 ε).toS fun ra ε1 => (m2 ε1).toS fun rb ε2 => match view ε2 ra, view ε2 rb, ε2[i]?, ε2[k]? with
  | some (.int a), some (.int b), some (some (.own (.st cs t))), some (some (.fro (.int kk))) => if 0 < b ∧ b.natAbs.log2 < 9000 ∧ j < ε2.length ∧ j ≠ i then
      (match ixN cs.length kk with
        | some jj => .nx ((ε2.set i (some (.own (.st (cs.set jj (a / b)) t)))).set j (some (.fro (.int (a % b)))))
        | none => .bad)
    else .bad
  | _, _, _, _ => .bad := rfl
@[simp] theorem x_retSt (t : Int) : sRetSt j t ε = (match ε[j]? with
  | some (some (.own (.lst ds))) => (match intsD ds with
    | some cs => .rt (.new (.st cs t)) (ε.set j none)
    | none => .bad)
  | _ => .bad) := rfl
@[simp] theorem x_scrSl (lo hi : M (Option Int)) : mScrSl i lo hi ε = (match ε[i]? with
  | some (some (.scr ns)) => (lo ε).bind fun l ε2 => (hi ε2).bind fun h ε3 => .ok (.new (.lst (cutD (ns.map PyData.int) l h))) ε3
  | _ => .bad) := rfl
@[simp] theorem x_fnF (own : List Nat) (N : Nat) (body : Sm) : fnF own N body ε = (if parOk own 0 ε = true ∧ ε.length ≤ N then
    match body (ε ++ List.replicate (N - ε.length) none) with
    | .nx ε' => .ok (.fro .none) (outE own ε' 0 ε)
    | .rt (.fro d) ε' => .ok (.fro d) (outE own ε' 0 ε)
    | .rt (.raw v) ε' => .ok (.raw v) (outE own ε' 0 ε)
    | .rt (.new o) ε' => .ok (.new o) (outE own ε' 0 ε)
    | .rt (.at_ i) ε' => if i < ε.length then .bad else (match ε'[i]? with
      | some (some (.own o)) => .ok (.new o) (outE own ε' 0 ε)
      | some (some (.fro d)) => .ok (.fro d) (outE own ε' 0 ε)
      | _ => .bad)
    | .err x ε' => .err x (outE own ε' 0 ε)
    | _ => .bad
  else .bad) := rfl
@[simp] theorem x_p0 (own : List Nat) : parOk own i [] = true := rfl
@[simp] theorem x_p1 (own : List Nat) (o : OV) : parOk own i (some (.own o) :: ε) = (own.contains i && parOk own (i + 1) ε) := rfl
@[simp] theorem x_p2 (own : List Nat) : parOk own i (some (.fro d) :: ε) = parOk own (i + 1) ε := rfl
@[simp] theorem x_p3 (own : List Nat) (ns : List Int) : parOk own i (some (.scr ns) :: ε) = parOk own (i + 1) ε := rfl
@[simp] theorem x_e0 (own : List Nat) : outE own ε' i [] = [] := rfl
@[simp] theorem x_e1 (own : List Nat) (e : Option SV) : outE own ε' i (e :: ε) = (if own.contains i = true then ε'.getD i none else e) :: outE own ε' (i + 1) ε := rfl
@[simp] theorem x_w0 : wipeE ε [] = ε := rfl
@[simp] theorem x_w1 (v : Nat) (vs : List Nat) : wipeE ε (v :: vs) = (wipeE ε vs).set v none := rfl
@[simp] theorem x_r0 : restE ε ε' [] = ε' := rfl
@[simp] theorem x_r1 (v : Nat) (vs : List Nat) : restE ε ε' (v :: vs) = (restE ε ε' vs).set v (ε.getD v none) := rfl
end

/-! ### list comprehensions by a step -/
theorem lc_gen {p : Pat} {vs : List Nat} {m : M D} {f : D → D} {ε : En} : ∀ {ds acc : List D}, (∀ d ∈ ds, ∃ ε1 ε3, bindP p d ε = some ε1 ∧ m ε1 = .ok (f d) ε3 ∧ wipeE ε3 vs = ε) → acc.length + ds.length ≤ sizeLine →
    lcLoop p vs mYes m ds acc ε = .ok (acc ++ ds.map f) ε
  | [], acc, _, _ => by unfold lcLoop; simp
  | d :: ds, acc, h, hl => by
    obtain ⟨ε1, ε3, h1, h2, h3⟩ := h d List.mem_cons_self
    unfold lcLoop
    rw [h1]
    simp only [x_yes, h2]
    rw [List.length_cons] at hl
    rw [if_pos (by omega), h3, lc_gen (fun x hx => h x (List.mem_cons_of_mem _ hx)) (by rw [List.length_append, List.length_singleton]; omega)]
    simp
/-- by an invariant of the slots and of what has come -/
theorem lc_inv {p : Pat} {vs : List Nat} {m : M D} (I : List D → En → Prop) {N : Nat} (hN : N ≤ sizeLine) : ∀ {ds acc : List D} {ε : En}, I acc ε → (∀ d ∈ ds, ∀ acc ε, I acc ε → acc.length < N → ∃ ε1 y ε3, bindP p d ε = some ε1 ∧ m ε1 = .ok y ε3 ∧ I (acc ++ [y]) (wipeE ε3 vs)) → acc.length + ds.length ≤ N →
    ∃ out ε', lcLoop p vs mYes m ds acc ε = .ok out ε' ∧ I out ε' ∧ out.length = acc.length + ds.length
  | [], acc, ε, h0, _, _ => ⟨acc, ε, by unfold lcLoop; rfl, h0, rfl⟩
  | d :: ds, acc, ε, h0, h, hl => by
    rw [List.length_cons] at hl
    obtain ⟨ε1, y, ε3, h1, h2, h3⟩ := h d List.mem_cons_self acc ε h0 (by omega)
    obtain ⟨out, ε', e1, e2, e3⟩ := lc_inv I hN (ds := ds) h3 (fun x hx => h x (List.mem_cons_of_mem _ hx)) (by rw [List.length_append, List.length_singleton]; omega)
    refine ⟨out, ε', ?_, e2, by rw [e3, List.length_append, List.length_singleton, List.length_cons]; omega⟩
    unfold lcLoop
    rw [h1]
    simp only [x_yes, h2]
    rw [if_pos (by omega)]
    exact e1
/-- for, by an invariant of what has been walked -/
theorem loop_nx {p : Pat} {body : Sm} (I : Nat → En → Prop) : ∀ {ds : List D} {ε : En} {k : Nat}, I k ε → (∀ (i : Nat) d ε, ds[i]? = some d → I (k + i) ε → ∃ ε1 ε2, bindP p d ε = some ε1 ∧ body ε1 = .nx ε2 ∧ I (k + i + 1) ε2) →
    ∃ ε', sLoop p body ds ε = .nx ε' ∧ I (k + ds.length) ε'
  | [], ε, k, h0, _ => ⟨ε, by unfold sLoop; rfl, h0⟩
  | d :: ds, ε, k, h0, h => by
    obtain ⟨ε1, ε2, h1, h2, h3⟩ := h 0 d ε rfl h0
    unfold sLoop
    rw [h1]
    simp only [h2]
    obtain ⟨ε', e1, e2⟩ := loop_nx I (ds := ds) (k := k + 1) h3 fun i x ε hi hI => by
      have e : k + 1 + i = k + (i + 1) := by omega
      rw [e] at hI ⊢
      exact h (i + 1) x ε (by simpa using hi) hI
    refine ⟨ε', e1, ?_⟩
    have e : k + (d :: ds).length = k + 1 + ds.length := by rw [List.length_cons]; omega
    rw [e]; exact e2
theorem intsD_map : ∀ ns : List Int, intsD (ns.map PyData.int) = some ns
  | [] => rfl
  | n :: ns => by
    show (intsD (ns.map PyData.int)).map _ = _
    rw [intsD_map ns]; rfl
end M3

namespace M3
open PySem PySem.Spec L2
open PyProof.Rows hiding St

/-! ### a statement that is not reached -/

/-! ### the module's own tuples -/
/-! ### dicts of frozen data -/
def keyD : D → Option Key
  | .int i => some (.inl i)
  | .str z => some (.inr z)
  | _ => none
theorem keyD_v {C : Ct} {Hf H : Hp} {v : V} {d : D} {k : Key} (h : Vw C Hf H v d) (e : keyD d = some k) : v = kV k := by
  cases d with
  | int i => cases e; exact h.int
  | str z => cases e; exact h.str
  | _ => cases e
def valD (kvs : List (Key × D)) (k : Key) : Option D := (kvs.find? fun kv => decide (kv.1 = k)).map (·.2)
def putD (kvs : List (Key × D)) (k : Key) (d : D) : List (Key × D) :=
  if (kvs.any fun kv => decide (kv.1 = k)) = true then kvs.map (fun kv => if kv.1 = k then (kv.1, d) else kv) else kvs ++ [(k, d)]
def mergeD (kvs more : List (Key × D)) : List (Key × D) := more.foldl (fun acc kv => putD acc kv.1 kv.2) kvs
section
variable {K : PySem.W.Frag} {Hf H : Hp}
theorem KvAll.val (k : Key) : ∀ {vs : List (Key × V)} {ds : List (Key × D)}, KvAll K Hf vs ds → (valV vs k = none ∧ valD ds k = none) ∨ ∃ v d, valV vs k = some v ∧ valD ds k = some d ∧ Dq K Hf v d
  | _, _, .nil => .inl ⟨rfl, rfl⟩
  | _, _, .cons (k := j) (v := v) (d := d) (vs := vs) (ds := ds) a b => by
    by_cases e : j = k
    · exact .inr ⟨v, d, by simp [valV, e], by simp [valD, e], a⟩
    · have e1 : valV ((j, v) :: vs) k = valV vs k := by simp [valV, e]
      have e2 : valD ((j, d) :: ds) k = valD ds k := by simp [valD, e]
      rw [e1, e2]
      exact b.val k
theorem KvAll.any (k : Key) : ∀ {vs : List (Key × V)} {ds : List (Key × D)}, KvAll K Hf vs ds → (vs.any fun kv => decide (kv.1 = k)) = ds.any fun kv => decide (kv.1 = k)
  | _, _, .nil => rfl
  | _, _, .cons a b => by rw [List.any_cons, List.any_cons, b.any k]
theorem KvAll.len : ∀ {vs : List (Key × V)} {ds : List (Key × D)}, KvAll K Hf vs ds → vs.length = ds.length
  | _, _, .nil => rfl
  | _, _, .cons a b => by rw [List.length_cons, List.length_cons, b.len]
theorem KvAll.over {k : Key} {v : V} {d : D} (h : Dq K Hf v d) : ∀ {vs : List (Key × V)} {ds : List (Key × D)}, KvAll K Hf vs ds → KvAll K Hf (vs.map fun kv => if kv.1 = k then (kv.1, v) else kv) (ds.map fun kv => if kv.1 = k then (kv.1, d) else kv)
  | _, _, .nil => .nil
  | _, _, .cons (k := j) a b => by
    rw [List.map_cons, List.map_cons]
    by_cases e : j = k
    · rw [if_pos e, if_pos e]
      exact .cons h (b.over h)
    · rw [if_neg e, if_neg e]
      exact .cons a (b.over h)
theorem KvAll.app : ∀ {vs vs' : List (Key × V)} {ds ds' : List (Key × D)}, KvAll K Hf vs ds → KvAll K Hf vs' ds' → KvAll K Hf (vs ++ vs') (ds ++ ds')
  | _, _, _, _, .nil, h => h
  | _, _, _, _, .cons a b, h => .cons a (b.app h)
theorem KvAll.put {k : Key} {v : V} {d : D} (h : Dq K Hf v d) {vs : List (Key × V)} {ds : List (Key × D)} (a : KvAll K Hf vs ds) : KvAll K Hf (putK vs k v) (putD ds k d) := by
  unfold putK putD
  rw [a.any k]
  split
  · exact a.over h
  · exact a.app (.cons h .nil)
end

/-! ### dicts in slots -/
def dctAt (ε : En) (i : Nat) : Option (List (Key × D)) := match ε[i]? with
  | some (some (.own (.dct kvs))) => some kvs
  | _ => none
def keyR (ε : En) (r : RV) : Option Key := (view ε r).bind keyD
section
variable {C : Ct} {Hf H : Hp} {w : Own} {σ : L2.St} {ε : En} {i : Nat} {kvs : List (Key × D)}
theorem EnR.key (E : EnR C Hf H w σ ε) {v : V} {r : RV} {k : Key} (h : opR C Hf σ v r) (e : keyR ε r = some k) : v = kV k := by
  unfold keyR at e
  cases q : view ε r with
  | none => rw [q] at e; cases e
  | some d => rw [q] at e; exact keyD_v (h.view E q) e
end
section
variable {X : Cx} {C : Ct} {x : Str} {px pos apos : Pos} {e f : Expr} {ty tz : TE} {m m2 : M RV} {k : Nat}
/-- k in d, k not in d -/
def dInR (neg : Bool) (i : Nat) (r : RV) (ε : En) : R RV := match dctAt ε i, keyR ε r with
  | some kvs, some k => .ok (.fro (.bool (neg ^^ (valD kvs k).isSome))) ε
  | _, _ => .bad
def mDIn (neg : Bool) (i : Nat) (m : M RV) : M RV := fun ε => (m ε).bind (dInR neg i)
/-- d.get(k, z) -/
def dGetR (i : Nat) (r z : RV) (ε : En) : R RV := match dctAt ε i, keyR ε r with
  | some kvs, some k => (match valD kvs k with
    | some d => .ok (.fro d) ε
    | none => (match z with
      | .fro d => .ok (.fro d) ε
      | _ => .bad))
  | _, _ => .bad
def mDGet2 (i : Nat) (m m2 : M RV) : M RV := fun ε => match dctAt ε i with
  | some _ => (m ε).bind fun r ε1 => (m2 ε1).bind fun z ε2 => dGetR i r z ε2
  | none => .bad
end
/-! ### dict(list of pairs) -/
end M3

namespace M3
open PySem PySem.Spec L2
open PyProof.Rows hiding St

/-! ### a, b, *c = a list or tuple -/
theorem pgs_star {X : Cx} {e : Expr} {p : Pos} {es : List Expr} {t : TG} {u : TGs} (h1 : PG X e t) (h2 : PGs X es u)
    (hs : (assignEach (.Starred e p :: es) X.env).map (·.2) = assign e X.env :: (assignEach es X.env).map (·.2) := by rfl) : PGs X (.Starred e p :: es) (gCons t u) := by
  refine ⟨fun pins s σ H vs us Q I r h => ?_⟩
  obtain ⟨v, vr, rfl, h⟩ := h
  cases r with
  | cons r rr =>
    rw [hs]
    exact assignInOrder_cons (thn (h1.run pins s σ H _ _ _ I r h) fun _ s1 ⟨σ1, H1, I1, q1⟩ => h2.run pins s1 σ1 H1 _ _ Q I1 rr q1)
theorem mgs_star {X : Cx} {C : Ct} {vs : List Nat} {e : Expr} {p : Pos} {es : List Expr} {g : TG} {gs : TGs} {q : Pat} {ps : List Pat} (h1 : MG X C vs e g q) (h2 : MGs X C vs es gs ps)
    (hs : (assignEach (.Starred e p :: es) X.env).map (·.2) = assign e X.env :: (assignEach es X.env).map (·.2) := by rfl) : MGs X C vs (.Starred e p :: es) (gCons g gs) (q :: ps) := ⟨pgs_star h1.pg h2.pg hs, pats_cons h1.sn h2.sn, h1.hK⟩
def gStar (K : PySem.W.Frag) (n : Nat) (t : TGs) : TG := fun v σ H Q => ∃ a b xs, v = .ref a ∧ SqM K b H a xs ∧ n ≤ xs.length ∧ ∀ p, H p = none → t (xs.take n ++ [.ref p]) σ (upd H p (.lst (xs.drop n))) Q
theorem star_items {prog : Program} {w : World} {A : Around} {E : Value → Shared → Prop} {s : Shared} {b : Bool} {l : Addr} {items : Array Value} {n : Nat} {Q : List Value → Shared → Prop} (hl : IsM b s.heap l items) (hh : A.handled = none) (hn : n ≤ items.size) (hz : items.size ≤ sizeLine)
    (h : ∀ (h2 : Heap) (tk : Nat), (∀ c o, s.heap.get? c = some o → h2.get? c = some o) → Q (items.toList.take n ++ [.ref h2.objs.size]) { s with heap := h2.push { cls := .type "list", data := .seq (items.toList.drop n).toArray }, toks := tk }) :
    wpAny (model prog w) A (unpackItems (.ref l) (n + 1) (some n)) Q E s := by
  have lt := isM_lt hl
  have ne : l ≠ s.heap.objs.size := Nat.ne_of_lt lt
  have fl : (items.toList.take n).length = n := by rw [List.length_take, Array.length_toList]; omega
  have rest : ∀ (h2 : Heap) (tk : Nat), (∀ c o, c ≠ s.heap.objs.size → s.heap.get? c = some o → h2.get? c = some o) → wpAny (model prog w) A (newList ((items.toList.drop n).take ((items.toList.drop n).length - (n + 1 - 1 - n))) >>= fun d => pure (items.toList.take n ++ [d] ++ (items.toList.drop n).drop ((items.toList.drop n).length - (n + 1 - 1 - n)))) Q E { s with heap := h2, toks := tk } := fun h2 tk up => by
    have e0 : n + 1 - 1 - n = 0 := by omega
    rw [e0, Nat.sub_zero, List.take_length, List.drop_length]
    refine wpAny_bind (wpAny_newList ?_ (by rw [List.length_drop, Array.length_toList]; omega))
    rw [List.append_nil]
    exact wpAny_pure (h h2 tk fun c o e => up c o (Nat.ne_of_lt (Heap.lt_size e)) e)
  unfold unpackItems
  refine wpAny_bind ?_
  unfold notIterableAtAll
  cases b with
  | true =>
    have hl : s.heap.IsTuple l items := hl
    refine wpAny_bind (wpAny_specialOf hl.typeIs F.slot_tuple_iter.lookup (wpAny_pure ?_))
    simp only [Bool.false_eq_true, if_false]
    refine wpAny_bind (wpAny_holding (wpAny_pyIter_tuple hl ?_))
    refine wpAny_bind (wpAny_holding (wpAny_draw_tuple ne n 0 _ _ ⟨_, Heap.get?_push_size _ rfl, rfl, rfl⟩ (hl.push _) (by omega) fun h1 it1 s1 => ?_))
    have l1 : h1.IsTuple l items := (hl.push _).extBut s1.extBut ne
    rw [Nat.zero_add] at it1
    obtain ⟨oi, hoi, _⟩ := id it1
    obtain ⟨ol, hol, _⟩ := id l1
    rw [List.drop_zero]
    rw [if_neg (by rw [fl]; omega)]
    refine wpAny_bind (wpAny_holding (PySem.W.kun_collect (s := { s with heap := h1 }) (T := "tuple_iterator") (.inr (.inr (.inr rfl))) (Walks.tuple (A := A.in1) hh s.heap.objs.size l ne items) (fun j u st => st.1.typeIs) (k := n) hn ⟨it1, l1⟩ (Heap.lt_size hoi) (Heap.lt_size hol) (fun h2 tk up => ?_) hz))
    show wpAny _ A (if (items.toList.drop n).length < n + 1 - 1 - n then _ else _) _ _ _
    rw [if_neg (by omega)]
    exact rest h2 tk fun c o hc e => up c o hc (s1.extBut c o hc (Heap.get?_push_of_some _ e))
  | false =>
    have hl : s.heap.IsList l items := hl
    refine wpAny_bind (wpAny_specialOf hl.typeIs F.slot_list_iter.lookup (wpAny_pure ?_))
    simp only [Bool.false_eq_true, if_false]
    refine wpAny_bind (wpAny_holding (wpAny_pyIter_list hl ?_))
    refine wpAny_bind (wpAny_holding (PySem.W.kun_draw ne n 0 _ _ ⟨_, Heap.get?_push_size _ rfl, rfl, rfl⟩ (hl.push _) (by omega) fun h1 it1 s1 => ?_))
    have l1 : h1.IsList l items := (hl.push _).extBut s1.extBut ne
    rw [Nat.zero_add] at it1
    obtain ⟨oi, hoi, _⟩ := id it1
    obtain ⟨ol, hol, _⟩ := id l1
    rw [List.drop_zero]
    rw [if_neg (by rw [fl]; omega)]
    refine wpAny_bind (wpAny_holding (PySem.W.kun_collect (s := { s with heap := h1 }) (T := "list_iterator") (.inr (.inr (.inl rfl))) (Walks.list (A := A.in1) hh s.heap.objs.size l ne items) (fun j u st => st.1.typeIs) (k := n) hn ⟨it1, l1⟩ (Heap.lt_size hoi) (Heap.lt_size hol) (fun h2 tk up => ?_) hz))
    show wpAny _ A (if (items.toList.drop n).length < n + 1 - 1 - n then _ else _) _ _ _
    rw [if_neg (by omega)]
    exact rest h2 tk fun c o hc e => up c o hc (s1.extBut c o hc (Heap.get?_push_of_some _ e))
theorem vals_take {xs : List V} {us : List Value} (h : Vals xs us) : ∀ n, Vals (xs.take n) (us.take n) := by
  induction h with
  | nil => intro n; simp; exact .nil
  | cons r rr ih =>
    intro n
    cases n with
    | zero => exact .nil
    | succ n => exact .cons r (ih n)
theorem vals_drop {xs : List V} {us : List Value} (h : Vals xs us) : ∀ n, Vals (xs.drop n) (us.drop n) := by
  induction h with
  | nil => intro n; simp; exact .nil
  | cons r rr ih =>
    intro n
    cases n with
    | zero => exact .cons r rr
    | succ n => exact ih n
theorem vals_app {xs ys : List V} {us ws : List Value} (h : Vals xs us) (k : Vals ys ws) : Vals (xs ++ ys) (us ++ ws) := by
  induction h with
  | nil => exact k
  | cons r rr ih => exact .cons r ih
theorem pg_star {X : Cx} {es : List Expr} {k n : Nat} {t : TGs} {pos : Pos} (hc : X.calm = true) (h : PGs X es t)
    (hn : (assignEach es X.env).length = n + 1 := by rfl) (hst : (assignEach es X.env).findIdx? (·.1) = some n := by rfl) : PG X (.Tuple es k pos) (gStar X.K n t) := by
  refine ⟨fun pins s σ H v u Q I r hw => ?_⟩
  obtain ⟨a, b, xs, rfl, hq, hl, hw⟩ := hw
  cases r
  have hz : xs.length ≤ sizeLine := by
    cases b with
    | true => obtain ⟨_, _, _, z⟩ := I.tuple hq; exact z
    | false => obtain ⟨_, _, _, z⟩ := I.list hq; exact z
  obtain ⟨its, rv, m⟩ := seqM I hq
  have hlen := rv.length
  rw [arm_assign_Tuple]
  refine wpAny_bind (wpAny_standAt ?_)
  unfold unpack
  rw [hn, hst]
  refine wpAny_bind (wpAny_holding (star_items m (I.ok.hd hc) (by simp; omega) (by simp; omega) fun h2 tk up => ?_))
  have I1 : Inv X pins σ H { s with heap := h2, toks := tk } := I.kept (t' := tk) up
  have ob : ObjOk X.prog X.w (upd H h2.objs.size (.lst (xs.drop n))) (h2.push { cls := .type "list", data := .seq (its.drop n).toArray }) h2.objs.size (.lst (xs.drop n)) :=
    ⟨by show (xs.drop n).length ≤ sizeLine; rw [List.length_drop]; omega, its.drop n, 0, vals_drop rv n, Heap.get?_push_size _ rfl⟩
  have I2 : Inv X pins σ (upd H h2.objs.size (.lst (xs.drop n))) { s with heap := h2.push { cls := .type "list", data := .seq (its.drop n).toArray }, toks := tk } :=
    I1.laid (fun c o e => Heap.get?_push_of_some _ e) (Nat.le_refl _) ob
  exact h.run pins _ σ _ _ _ Q I2 (vals_app (by simpa using vals_take rv n) (.cons (show L2.RelV (.ref h2.objs.size) (.ref h2.objs.size) from rfl) .nil)) (hw _ (I1.hok.fresh (Nat.le_refl _)))
def sStar (md : M D) (n : Nat) (ps : List Pat) : Sm := fun ε => (md ε).toS fun d ε1 => match seqD d with
  | some ds => if n ≤ ds.length then (match bindPs ps (ds.take n ++ [.list (ds.drop n)]) ε1 with
    | some ε2 => .nx ε2
    | none => .bad) else .bad
  | none => .bad
theorem ms_star {X : Cx} {C : Ct} {es : List Expr} {e : Expr} {te : TE} {md : M D} {gs : TGs} {ps : List Pat} {k n : Nat} {tp pos : Pos} (vs : List Nat) (h : MD X C e te md) (hg : MGs X C vs es gs ps) (hc : X.calm = true := by rfl)
    (hn : (assignEach es X.env).length = n + 1 := by rfl) (hst : (assignEach es X.env).findIdx? (·.1) = some n := by rfl) (hs : swapsWithSole [.Tuple es k tp] e pos.line X.env = pure false := by rfl) (hw : swappedStores [.Tuple es k tp] e X.env = pure none := by rfl)
    (h1 : (assignEach [.Tuple es k tp] X.env).map (·.2) = [assign (.Tuple es k tp) X.env] := by rfl) : MS X C (.Assign [.Tuple es k tp] e pos) (tAsg te (gStar C.K n gs)) (sStar md n ps) := by
  refine ⟨by have q := ps_asg h.pe (pg_star (k := k) (pos := tp) hc hg.pg hn hst) hs hw h1; rw [h.hK] at q; exact q, fun Hf H w σ ε D E P => ?_⟩
  refine h.sn.toS E P fun d ε1 Hf1 H1 w1 S b _ E1 st1 r P1 => ?_
  split at P1
  · rename_i ds ed
    split at P1
    · rename_i hl
      split at P1
      · rename_i ε2 e2
        have P2 := PostS.step st1.noS P1
        obtain ⟨a, t, us, rfl, f, g⟩ := seqD_v r.2 ed
        refine ⟨a, t, us, rfl, (f.mono E1.sub).sq, by rw [g.length]; exact hl, fun p hp => ?_⟩
        have sm : Same Hf1 (upd Hf1 p (.lst (us.drop n))) := same_upd (same_none E1.sub hp)
        have gd : DqAll C.K (upd Hf1 p (.lst (us.drop n))) (us.take n ++ [.ref p]) (ds.take n ++ [.list (ds.drop n)]) := ((g.take n).mono sm).append (.cons (.lst upd_same ((g.drop n).mono sm)) .nil)
        exact hg.sn (upd Hf1 p (.lst (us.drop n))) (upd H1 p (.lst (us.drop n))) w1 σ ε1 _ _ ε2 _ (E1.lay hp) gd e2 fun σ' w' E' st' _ => P2 _ _ w' σ' E' ((Stp.lay E1.sub hp).trans st')
      · exact P1.elim
    · exact P1.elim
  · exact P1.elim

/-! ### the module's own dicts -/
def findK (kvs : List (Str × D)) (z : Str) : Option D := (kvs.find? fun kv => kv.1 == z).map (·.2)
def mKGet2 (kvs : List (Str × D)) (m m2 : M RV) : M RV := fun ε => (m ε).bind fun r ε1 => (m2 ε1).bind fun z ε2 => match view ε2 r with
  | some (.str k) => (match findK kvs k with
    | some d => .ok (.fro d) ε2
    | none => (match z with
      | .fro d => .ok (.fro d) ε2
      | _ => .bad))
  | _ => .bad
/-! ### a dict's display, its keys texts -/
def mDisp (ks : List Str) (ms : M (List D)) : M RV := fun ε => (ms ε).bind fun ds ε1 => if ds.length = ks.length ∧ ks.length ≤ 15 then .ok (.new (.dct (mergeD [] ((ks.map fun k => (.inr k : Key)).zip ds)))) ε1 else .bad
/-! ### a, b = x, y where a name is a cell: by a tuple -/
structure GNs (X : Cx) (es : List Expr) (is : List Nat) (g : TGs) : Prop where
  pg : PGs X es g
  eq : ∀ (vs : List V) (σ : L2.St) (H : Hp) (Q : L2.St → Hp → Prop), vs.length = is.length → Q (setAll is vs σ) H → g vs σ H Q
theorem gns_nil {X : Cx} : GNs X [] [] gNil := ⟨pgs_nil, fun vs σ H Q hl q => by
  cases vs with
  | nil => exact ⟨rfl, q⟩
  | cons _ _ => cases hl⟩
theorem gns_cons {X : Cx} {x : Str} {px : Pos} {es : List Expr} {is : List Nat} {g : TGs} (i : Nat) (hN : X.N.Nodup) (h : GNs X es is g) (hi : X.N[i]? = some x := by rfl) (hx : Loc X.env.scope x := by first | exact Or.inl rfl | exact Or.inr rfl)
    (hf : X.fn x = true ∨ X.env.scope.names.lookup x = some .local := by first | exact .inl rfl | exact .inr rfl) (hs : (assignEach (.Name x px :: es) X.env).map (·.2) = assign (.Name x px) X.env :: (assignEach es X.env).map (·.2) := by rfl) : GNs X (.Name x px :: es) (i :: is) (gCons (gName i) g) :=
  ⟨pgs_cons (pg_name hN hi hx hf) h.pg hs, fun vs σ H Q hl q => by
    cases vs with
    | nil => cases hl
    | cons v vs => exact ⟨v, vs, rfl, h.eq vs _ H Q (by simpa using hl) q⟩⟩
theorem RVs.len {C : Ct} {Hf H : Hp} {w : Own} {σ : L2.St} : ∀ {S : Addr → Prop} {vs : List V} {rs : List RV}, RVs C Hf H w σ S vs rs → vs.length = rs.length
  | _, _, _, .nil _ => rfl
  | _, _, _, .cons _ h2 _ _ => congrArg Nat.succ (RVs.len h2)
theorem ms_parT {X : Cx} {C : Ct} {ts es : List Expr} {kt k2 n : Nat} {tp vp pos : Pos} {is : List Nat} {g : TGs} {tr : TA} {ms : M (List RV)} (h : MRs X C es tr ms) (hg : GNs X ts is g) (hn : (assignEach ts X.env).length = n := by rfl) (hst : (assignEach ts X.env).findIdx? (·.1) = none := by rfl) (hni : is.length = n := by rfl)
    (hw : swappedStores [.Tuple ts kt tp] (.Tuple es k2 vp) X.env = pure none := by rfl) (hs : swapsWithSole [.Tuple ts kt tp] (.Tuple es k2 vp) pos.line X.env = pure false := by rfl) (h1 : (assignEach [.Tuple ts kt tp] X.env).map (·.2) = [assign (.Tuple ts kt tp) X.env] := by rfl)
    (hc : X.calm = true := by rfl) (ho : (is.all fun i => !C.own.contains i) = true := by rfl) (hsz : is.length ≤ 100 := by decide) (hK : X.K = C.K := by rfl) : MS X C (.Assign [.Tuple ts kt tp] (.Tuple es k2 vp) pos) (tAsg (tTup tr) (gSeq C.K n g)) (sPar is ms) := by
  refine ⟨by have q := ps_asg (pe_tup h.pa) (pg_seq (k := kt) (pos := tp) hc hg.pg hn hst) hs hw h1; rw [hK] at q; exact q, fun Hf H w σ ε D E P => ?_⟩
  refine h.sn.toS E P fun rs ε1 Hf1 H1 w1 S vs _ E1 st rb P1 => ?_
  split at P1
  · rename_i ε2 e2
    obtain ⟨Hf2, w2, E2, st2⟩ := stores_ok E1 rb e2 fun i hi => by simpa using List.all_eq_true.mp ho i hi
    have hl := mStores_len e2
    have hvl := rb.len
    refine ⟨by rw [sizeLine_eq]; omega, fun p hp => .inl ⟨p, vs, rfl, SqT.of upd_same, by omega, hg.eq vs σ _ _ (by omega) ?_⟩⟩
    have ln := Stp.layNew (w := w2) (Hf := Hf2) (u := .tup vs) hp
    exact P1 Hf2 (upd H1 p (.tup vs)) w2 _ (E2.layNew hp) ((st2 st).trans (ln.out fun x z => .inl z))
  · exact P1.elim
end M3

namespace M3
open PySem PySem.Spec L2
open PyProof.Rows hiding St
/-! ### lists of lists that are owned -/
section
variable {K : PySem.W.Frag} {Hf Hf' H H' : Hp}
theorem NlR.app : ∀ {qs : List Addr} {dss : List (List D)} {q : Addr} {vs : List V} {ds : List D}, NlR K Hf H qs dss → H q = some (.lst vs) → DqAll K Hf vs ds → NlR K Hf H (qs ++ [q]) (dss ++ [ds])
  | _, _, _, _, _, .nil, h, a => .cons h a .nil
  | _, _, _, _, _, .cons h1 a1 b, h, a => .cons h1 a1 (b.app h a)
theorem NlR.length : ∀ {qs : List Addr} {dss : List (List D)}, NlR K Hf H qs dss → qs.length = dss.length
  | _, _, .nil => rfl
  | _, _, .cons _ _ b => congrArg Nat.succ b.length
theorem NlR.get : ∀ {qs : List Addr} {dss : List (List D)} {n : Nat} {ds : List D}, NlR K Hf H qs dss → dss[n]? = some ds → ∃ q vs, qs[n]? = some q ∧ H q = some (.lst vs) ∧ DqAll K Hf vs ds
  | _, _, _, _, .nil, e => by simp at e
  | _, _, 0, _, .cons h a _, e => by simp at e; subst e; exact ⟨_, _, rfl, h, a⟩
  | _, _, n + 1, _, .cons _ _ b, e => by
    rw [List.getElem?_cons_succ] at e
    obtain ⟨q, vs, h1, h2, h3⟩ := b.get e
    exact ⟨q, vs, by rw [List.getElem?_cons_succ]; exact h1, h2, h3⟩
/-- one of the lists is another one -/
theorem NlR.set : ∀ {qs : List Addr} {dss : List (List D)} {n : Nat} {q : Addr} {us : List V} {es : List D}, NlR K Hf H qs dss → qs.Nodup → qs[n]? = some q → DqAll K Hf us es → NlR K Hf (upd H q (.lst us)) qs (dss.set n es)
  | _, _, _, _, _, _, .nil, _, e, _ => by simp at e
  | q0 :: qs, _, 0, q, us, es, .cons h a b, nd, e, k => by
    simp at e
    subst e
    rw [List.nodup_cons] at nd
    rw [List.set_cons_zero]
    exact .cons upd_same k (b.keep (Same.refl _) fun x hx => upd_ne fun z => nd.1 (by rw [← z]; exact hx))
  | q0 :: qs, _, n + 1, q, us, es, .cons h a b, nd, e, k => by
    rw [List.getElem?_cons_succ] at e
    rw [List.nodup_cons] at nd
    rw [List.set_cons_succ]
    have ne : q0 ≠ q := fun z => nd.1 (by rw [z]; exact List.mem_of_getElem? e)
    exact .cons (by rw [upd_ne ne]; exact h) a (b.set nd.2 e k)
theorem NlR.dq : ∀ {qs : List Addr} {dss : List (List D)}, NlR K Hf H qs dss → Same Hf Hf' → (∀ a ∈ qs, Hf' a = H a) → DqAll K Hf' (qs.map V.ref) (dss.map PyData.list)
  | _, _, .nil, _, _ => .nil
  | _, _, .cons h a b, s, k => .cons (.lst (by rw [k _ List.mem_cons_self]; exact h) (a.mono s)) (b.dq s fun x hx => k x (List.mem_cons_of_mem _ hx))
end
section
variable {C : Ct} {Hf H : Hp} {w : Own} {σ : L2.St} {ε : En} {i : Nat} {dss : List (List D)}
/-- the slot is hidden: its value stands, nothing is known of it -/
theorem EnR.hide (E : EnR C Hf H w σ ε) {v : V} (hp : σ[i]? = some (some v)) : EnR C Hf H (wSet w i fun _ => False) σ (ε.set i none) := by
  have q := E.put (Hf' := Hf) (H' := H) (S := fun _ => False) (lt_of_get hp) (Same.refl _) E.sub (fun _ _ _ _ => rfl) (some v) none (fun _ z => z) (fun _ _ _ _ z => z) (fun j a _ hw => E.fre j a hw) (fun _ z => z.elim)
    (fun hc u hu => by
      have := E.fix i u hc hu
      rw [hp] at this
      exact Option.some.inj this)
  rw [set_same hp] at q
  exact q
end
end M3

namespace M3
open PySem PySem.Spec L2
open PyProof.Rows hiding St
/-! ### [[..] for ..]: a list of lists that are owned -/
section
variable {X : Cx} {C : Ct}
end
end M3

namespace M3
open PySem PySem.Spec L2
open PyProof.Rows hiding St
/-! ### abs, is of truths -/
/-! ### a dict's display, read at once -/
section
variable {X : Cx} {C : Ct} {pos apos : Pos} {o e f : Expr} {to ty tz : TE} {m0 m m2 : M RV} {k : Nat}
end
/-! ### a module's dict, subscripted -/
section
variable {X : Cx} {C : Ct} {x : Str} {px pos : Pos} {e : Expr} {kvs : List (Str × D)} {ty : TE} {m : M RV}
end
end M3

namespace M3
open PySem PySem.Spec L2
open PyProof.Rows hiding St
/-! ### f(..), its one argument a new thing that is the callee's own -/
section
variable {C : Ct} {te : TE} {m0 F : M RV}
end
end M3

namespace M3
open PySem PySem.Spec L2
open PyProof.Rows hiding St
/-! ### a new list, or what else -/
end M3

namespace M3
open PySem PySem.Spec L2
open PyProof.Rows hiding St
/-! ### lists: insert, reverse, extend -/
section
variable {X : Cx} {C : Ct} {e k : Expr} {ta : TE} {tr : TA} {m : M RV} {ms : M (List D)} {pos : Pos}
end
end M3

namespace M3
open PySem PySem.Spec L2
open PyProof.Rows hiding St
/-! ### own classes of exceptions over any built-in one -/
/-- the object of the class at C: its mro behind itself bm, made by nw -/
def ClsO (K : PySem.W.Frag) (C : Addr) (bm : List Value) (nw : String) : Prop := ∃ (nm q : Str) (N : Addr) (bs : List Value) (sn : List Str) (sub : List Value) (ab : Bool) (col : Option Bool) (dd : Option Addr) (k0 k1 k2 k3 k5 : Option Value),
  K.lookup C = some (excClassObj nm q C N bs bm true sn sub ab col dd k0 k1 k2 k3 k5 nw)
/-- what the written part says of the class: over the built-in class B, whose __init__ is ini -/
structure OexG (K : PySem.W.Frag) (C : Addr) (ini : String) : Prop where
  cls : ∃ (bm bmB : List Value) (B nw : String), ClsO K C bm nw ∧ ExcBaseFacts B nw ini bmB ∧ (∀ X : String, bm.contains (.type X) = bmB.contains (.type X)) ∧ (∀ self : Value, refuseLoop self "__setattr__" bm = pure ()) ∧ bm.contains (.type "object") = true
  sa : PySem.W.findIn K (.ref C) "__setattr__" = some (some (.builtin "object.__setattr__"))
  exC : PySem.W.subIn K (.ref C) (.type "BaseException") = some true
  tyC : PySem.W.typeIn K (.ref C) = some (.type "type")
  kC : PySem.W.keepIn K (.ref C) = true
def clD (nm q : Str) (C N : Addr) (bs bm : List Value) (sn : List Str) (sub : List Value) (ab : Bool) (col : Option Bool) : ClassData :=
  { name := nm, bases := bs, mro := .ref C :: bm, ns := N, qualname := q, hasDict := true, slotNames := sn, subclasses := sub, abstract := ab, collection := col, hasDel := false }
theorem OexG.data {K : PySem.W.Frag} {C : Addr} {ini : String} (T : OexG K C ini) : ∃ cd : ClassData, PySem.W.clsIn K C = some cd ∧ cd.hasDict = true ∧ cd.mro.isEmpty = false ∧ cd.mro.contains (.type "object") = true ∧ ∀ self : Value, refuseLoop self "__setattr__" cd.mro = pure () := by
  obtain ⟨bm, bmB, B, nw, ⟨nm, q, N, bs, sn, sub, ab, col, dd, k0, k1, k2, k3, k5, hC⟩, _, _, hp, ho⟩ := T.cls
  refine ⟨clD nm q C N bs bm sn sub ab col, by unfold PySem.W.clsIn; rw [hC] <;> rfl, rfl, rfl, ?_, fun self => ?_⟩
  · show (Value.ref C :: bm).contains (.type "object") = true
    rw [List.contains_cons, ho, Bool.or_true]
  · show refuseLoop self "__setattr__" (Value.ref C :: bm) = pure ()
    rw [refuseLoop_ref]; exact hp self
section
open Builtin Builtin.ObjectAttr
variable {prog : Program} {w : World} {A : Around} {R : Result → Shared → Prop} {hp : Heap} {g : Array GenState} {d : Drawn} {t : Nat} {os : OsState} {K : PySem.W.Frag} {name : Str} {tk : Tok} {v : Value} {x C dx : Addr} {fv : Array Value} {ini : String}
/-- object.__setattr__ comes to the own dict -/
theorem sa_walk {ox : Obj} {od : Option Obj} (X : K.In hp) (T : OexG K C ini) (I : PySem.W.InstAt hp x ox C od) (ha : PySem.W.findIn K (.ref C) name = some none)
    (go : wpAny (model prog w) A.in1 (storeInOwnDict (.ref x) (.ref C) (.str name tk) name v false)
      (fun fin s' => match fin with | .done f => R (.ok f) s' | .again c' => c'.quiet = true ∧ codeAny (model prog w) A c' R s') (fun e s' => R (.error e) s') ⟨hp, g, d, t, os⟩) :
    codeAny (model prog w) A (.call (.builtin "object.__setattr__") ⟨[.ref x, .str name tk, v], []⟩) R ⟨hp, g, d, t, os⟩ := by
  obtain ⟨cd, hcd, _, hne, hob, hps⟩ := T.data
  have S := F.store_object
  have below : PySem.W.Looks (model prog w) hp (isInstance (.ref x) (.type "object")) true := I.type.andThen (PySem.W.looks_mroIn X (by unfold PySem.W.mroIn; rw [hcd, Option.bind_some, if_neg (by rw [hne]; decide), hob]))
  have look : PySem.W.Looks (model prog w) hp (mroOf (.ref C)) cd.mro := (PySem.W.looks_clsIn X hcd).andThen .now
  have none_ : PySem.W.Looks (model prog w) hp (storeTaker? none) none := .now
  refine codeAny_call_builtin S.slot.plain S.entry (@PySem.W.check_slot (model prog w) _ _ ⟨hp, g, d, t, os⟩ "object.__setattr__" "object" "__setattr__" (.ref x) [.str name tk, v] [] _ S.kind S.split below (S.args (.ref x) (.str name tk) v) ?_)
  rw [PySem.W.osa_eq, refuse_eq]
  refine wpAny_bind (wpAny_bind (I.type.at (wpAny_bind (look.at ?_))))
  rw [hps]
  exact wpAny_pure (wpAny_bind (I.type.at (wpAny_bind ((PySem.W.looks_findIn X ha).at (wpAny_bind (none_.at go))))))
theorem sa_first (X : K.In hp) (T : OexG K C ini) (hx : hp.get? x = some { cls := .ref C, data := .fields fv }) (ha : PySem.W.findIn K (.ref C) name = some none)
    (hq : ∀ h' tk' dx, (∀ b o, b ≠ x → hp.get? b = some o → h'.get? b = some o) → hp.objs.size ≤ dx → dx ≠ x → h'.get? x = some { cls := .ref C, dict := some dx, data := .fields fv } →
      h'.Ns1 dx (fun y => if y = name then some v else none) → R (.ok (.ret .none)) ⟨h', g, d, tk', os⟩) :
    codeAny (model prog w) A (.call (.builtin "object.__setattr__") ⟨[.ref x, .str name tk, v], []⟩) R ⟨hp, g, d, t, os⟩ := by
  have ne : x ≠ hp.objs.size := Nat.ne_of_lt (Heap.lt_size hx)
  refine sa_walk X T (ox := { cls := .ref C, data := .fields fv }) (od := none) ⟨hx, rfl, rfl, trivial⟩ ha ?_
  obtain ⟨cd, hcd, hh, _⟩ := T.data
  have lc : PySem.W.Looks (model prog w) hp (classData C) cd := PySem.W.looks_clsIn X hcd
  obtain ⟨nm, bs, mro, ns, qn, hd, sn, sb, ab, col, del⟩ := cd
  dsimp only at hh
  subst hh
  unfold storeInOwnDict ownDictForStores
  repeat (first | with_reducible refine HandSPX.store_in_new ?_ ?_ | with_reducible refine wpAny_loadPart_at hx ?_ | with_reducible refine lc.at ?_ | wp_step)
  · exact ⟨_, #[], _, (Heap.get?_update_ne _ _ _ _ ne.symm).trans (Heap.get?_push_at rfl rfl), rfl, fun e he => absurd he (by simp), fun _ => rfl⟩
  · intro h' tk' hn' hs
    have hx1 : (hp.push { cls := .type "dict", data := .dict #[] }).get? x = some { cls := .ref C, data := .fields fv } := Heap.get?_push_of_some _ hx
    refine hq h' tk' hp.objs.size (fun b o hb ho => ?_) (Nat.le_refl _) ne.symm ?_ hn'
    · exact (hs.2 b (Nat.ne_of_lt (Heap.lt_size ho))).trans ((Heap.get?_update_ne _ _ _ _ hb).trans (Heap.get?_push_of_some _ ho))
    · exact (hs.2 x ne).trans (Heap.get?_update_self _ hx1 rfl)
theorem sa_next {m0 : Str → Option Value} {nl : List Str} (X : K.In hp) (T : OexG K C ini) (hx : hp.get? x = some { cls := .ref C, dict := some dx, data := .fields fv }) (hns : hp.Ns1 dx m0) (hw : Within m0 nl) (hz : nl.length ≤ 1000) (ha : PySem.W.findIn K (.ref C) name = some none)
    (hq : ∀ h' tk', (∀ b o, b ≠ dx → hp.get? b = some o → h'.get? b = some o) → h'.Ns1 dx (fun y => if y = name then some v else m0 y) → R (.ok (.ret .none)) ⟨h', g, d, tk', os⟩) :
    codeAny (model prog w) A (.call (.builtin "object.__setattr__") ⟨[.ref x, .str name tk, v], []⟩) R ⟨hp, g, d, t, os⟩ := by
  obtain ⟨oD, _, _, hoD, _, _⟩ := hns.count hw
  refine sa_walk X T (ox := { cls := .ref C, dict := some dx, data := .fields fv }) (od := some oD) ⟨hx, rfl, rfl, hoD⟩ ha ?_
  obtain ⟨cd, hcd, hh, _⟩ := T.data
  have lc : PySem.W.Looks (model prog w) hp (classData C) cd := PySem.W.looks_clsIn X hcd
  obtain ⟨nm, bs, mro, ns, qn, hd, sn, sb, ab, col, del⟩ := cd
  dsimp only at hh
  subst hh
  unfold storeInOwnDict ownDictForStores
  repeat (first | with_reducible refine PySem.OEX.store_in_old hns hw hz ?_ | with_reducible refine wpAny_loadPart_at hx ?_ | with_reducible refine lc.at ?_ | wp_step)
  intro h' tk' hn' hs
  exact hq h' tk' (fun b o hb ho => (hs.2 b hb).trans ho) hn'
end
section
variable {X : Cx} {pins : List (Addr × Obj)} {σ : L2.St} {H : Hp} {s : Shared} {a C dx : Addr} {f : Str} {y : V} {u : Value} {fs : List (Str × V)} {Q : Unit → Shared → Prop} {E : Value → Shared → Prop} {A : Around} {ini : String}
/-- self.f = y, the first field -/
theorem stG_first (T : OexG X.K C ini) (I : Inv X pins σ H s) (e : H a = some (exo a C none)) (hno : PySem.W.findIn X.K (.ref C) f = some none) (ry : RelV y u)
    (h : ∀ dx s', H dx = none → dx ≠ a → Inv X pins σ (upd (upd H dx (exd dx [(f, y)])) a (exo a C (some dx))) s' → Q () s') : wpAny (model X.prog X.w) A (setAttr (.ref a) f u) Q E s := by
  obtain ⟨t1, ho⟩ := exo_at I.hok e
  obtain ⟨hp, g, d, t, os⟩ := s
  refine PySem.W.set_plain I.kIn (ox := { cls := .ref C, dict := none, data := .fields #[.ref t1, .none, .none, .none, .bool false, .none] }) (od := none) ⟨ho, rfl, rfl, trivial⟩ T.sa ?_
  refine sa_first I.kIn T ho hno (fun h' tk' dx k dn dne hx hn => ?_)
  have nd0 : H dx = none := I.hok.fresh dn
  have nd : ∀ {b : Addr} {o : Obj}, hp.get? b = some o → b ≠ dx := fun {b o} q => Nat.ne_of_lt (Nat.lt_of_lt_of_le (Heap.lt_size q) dn)
  have na : ∀ {b : Addr}, H b = none → b ≠ a := fun {b} n z => by rw [z, e] at n; cases n
  have U : Un X.fs [] H (upd (upd H dx (exd dx [(f, y)])) a (exo a C (some dx))) hp h' := {
    keep := fun b o q n _ _ => k b o (na n) q
    slot := fun b o q n _ _ => ⟨o.slots, k b o (na n) q⟩
    free := fun b o q n _ => by rw [upd_ne (na n), upd_ne (nd q)]; exact n
    there := fun b o q _ => by
      by_cases hb : b = a
      · exact ⟨_, by rw [hb]; exact hx⟩
      · exact ⟨o, k b o hb q⟩
    tups := fun b xs q => by rw [upd_ne (at_ne e q exo_tup), upd_ne (ne_of_none q nd0)]; exact q
    frzs := fun b o v q => by rw [upd_ne (at_ne e q exo_frz), upd_ne (ne_of_none q nd0)]; exact q
    tbls := fun b ps q => ⟨#[], by rw [upd_ne (at_ne e q exo_tbl), upd_ne (ne_of_none q nd0), q]; simp⟩ }
  refine h dx _ nd0 dne (I.un (t' := tk') U fun b o q => ?_)
  by_cases hb : b = a
  · subst hb
    rw [upd_same] at q
    cases q
    exact exo_ok hx
  · rw [upd_ne hb] at q
    by_cases hd : b = dx
    · subst hd
      rw [upd_same] at q
      cases q
      exact exd_ok hn (relO_put (fs := []) ry fun g => True.intro)
    · rw [upd_ne hd] at q
      refine (I.hok b o q).stay (fun c v hc z => k c v ?_ z) (fun c hc => ?_) (fun c xs hc => ?_)
      · rcases hc with hc | hc
        · rw [hc]; exact hb
        · exact at_ne e hc exo_own
      · rw [upd_ne (at_ne e hc exo_own), upd_ne (ne_of_none hc nd0)]; exact hc
      · rw [upd_ne (at_ne e hc exo_tup), upd_ne (ne_of_none hc nd0)]; exact hc
/-- self.f = y, a further field -/
theorem stG_next (T : OexG X.K C ini) (I : Inv X pins σ H s) (e : H a = some (exo a C (some dx))) (ed : H dx = some (exd dx fs)) (hl : fs.length ≤ 900) (hno : PySem.W.findIn X.K (.ref C) f = some none) (ry : RelV y u)
    (h : ∀ s', Inv X pins σ (upd H dx (exd dx ((f, y) :: fs))) s' → Q () s') : wpAny (model X.prog X.w) A (setAttr (.ref a) f u) Q E s := by
  obtain ⟨t1, ho⟩ := exo_at I.hok e
  obtain ⟨mA, hns, rel⟩ := exd_at I.hok ed
  have hw := within_of rel
  obtain ⟨hp, g, d, t, os⟩ := s
  obtain ⟨oD, _, _, hoD, _, _⟩ := hns.count hw
  refine PySem.W.set_plain I.kIn (ox := { cls := .ref C, dict := some dx, data := .fields #[.ref t1, .none, .none, .none, .bool false, .none] }) (od := some oD) ⟨ho, rfl, rfl, hoD⟩ T.sa ?_
  refine sa_next I.kIn T ho hns hw (by rw [List.length_map]; omega) hno (fun h' tk' k hn => ?_)
  have there : ∃ o, h'.get? dx = some o := let ⟨o, _, _, e', _⟩ := hn; ⟨o, e'⟩
  exact h _ (I.write (t' := tk') (x := dx) (e := dx) (o := exd dx ((f, y) :: fs)) (by rw [ed]; exact True.intro) (.inl rfl) k there (exd_ok hn (relO_put ry rel)))
/-- the base's __init__(self, ..) -/
theorem iniG {us : List Value} {Q : Value → Shared → Prop} (T : OexG X.K C ini) (I : Inv X pins σ H s) (e : H a = some (exo a C none)) (hl : us.length ≤ sizeLine) (h : ∀ s', Inv X pins σ H s' → Q .none s') :
    wpAny (model X.prog X.w) A (call (.builtin ini) (.ref a :: us)) Q E s := by
  obtain ⟨bm, bmB, B, nw, ⟨nm, q, N, bs, sn, sub, ab, col, dd, k0, k1, k2, k3, k5, hC⟩, FB, hT, _, _⟩ := T.cls
  obtain ⟨t1, ho⟩ := exo_at I.hok e
  obtain ⟨hp, g, d, t, os⟩ := s
  refine wpAny_call (PySem.HandSPX.init_base FB hT (I.kIn _ _ hC) ho hl fun h' t2 k hx => ?_)
  have J := I.write (t' := t) (x := a) (e := a) (o := exo a C none) (by rw [e]; exact True.intro) (.inl rfl) k ⟨_, hx⟩ (exo_ok hx)
  have same : upd H a (exo a C none) = H := funext fun b => if hb : b = a then by rw [hb, upd_same, e] else upd_ne hb
  rw [same] at J
  exact h _ J
end
/-! ### readings -/
def tIni (K : PySem.W.Frag) (ini : String) (ta : TA) : TE := fun σ H Q => ta σ H fun vs H1 => ∃ (a C : Addr) (ws : List V), vs = .ref a :: ws ∧ ws.length ≤ 1000 ∧ OexG K C ini ∧ H1 a = some (exo a C none) ∧ Q .non H1
def tOstG (K : PySem.W.Frag) (f : Str) (to te : TE) : TS := fun D σ H => te σ H fun y H1 => to σ H1 fun x H2 => ∃ (a C : Addr) (ini : String), x = .ref a ∧ OexG K C ini ∧ PySem.W.findIn K (.ref C) f = some none ∧
  ((H2 a = some (exo a C none) ∧ ∀ dx, H2 dx = none → dx ≠ a → D.nx σ (upd (upd H2 dx (exd dx [(f, y)])) a (exo a C (some dx)))) ∨
    ∃ (dx : Addr) (fs : List (Str × V)), H2 a = some (exo a C (some dx)) ∧ H2 dx = some (exd dx fs) ∧ fs.length ≤ 900 ∧ D.nx σ (upd H2 dx (exd dx ((f, y) :: fs))))
section
variable {X : Cx} {o e : Expr} {es : List Expr} {to te : TE} {ta : TA} {f : Str} {p p' p1 p2 pos : Pos}
theorem ps_ostG (ho : PE X o to) (he : PE X e te) (hs : swapsWith e (some (.Attribute o f p')) pos.line X.env = pure false := by rfl) : PS X (.Assign [.Attribute o f p'] e pos) (tOstG X.K f to te) := by
  refine ⟨fun pins s σ H D I h => plainObj_wpAny_Assign_Attribute (thn (he.run pins s σ H _ I h) fun v s1 got => ?_) hs⟩
  obtain ⟨y, H1, I1, r1, q1⟩ := got
  refine thn (ho.run pins s1 σ H1 _ I1 q1) fun u s2 got2 => ?_
  obtain ⟨x, H2, I2, r2, a, C, ini, rfl, T, hno, q⟩ := got2
  have eu : u = Value.ref a := r2
  subst eu
  rcases q with ⟨ea, q⟩ | ⟨dx, fs, ea, ed, hl, q⟩
  · exact stG_first T I2 ea hno r1 fun dx s' n ne J => ⟨σ, _, J, q dx n ne⟩
  · exact stG_next T I2 ea ed hl hno r1 fun s' J => ⟨σ, _, J, q⟩
/-- how the base's name is read: a built-in class, or an own one -/
structure BaseI (X : Cx) (x : Str) (ini : String) : Prop where
  run : ∀ {pins : List (Addr × Obj)} {s : Shared} {σ : L2.St} {H : Hp} {pl : Sem Bool} {p1 : Pos} {Q : Value × List Value → Shared → Prop}, Inv X pins σ H s → (∀ s', Inv X pins σ H s' → Q (.builtin ini, []) s') →
    wpAny (model X.prog X.w) X.A (eval (.Name x p1) X.env) (fun ov s₁ => wpAny (model X.prog X.w) X.A (getMethod ov "__init__" pl) Q X.xe s₁) X.xe s
theorem pe_ini {x : Str} {ini : String} {pl : Sem Bool} (B : BaseI X x ini) (ha : PA X (e :: es) ta)
    (hc : eval (.Call (.Attribute (.Name x p1) "__init__" p2) (e :: es) [] pos) X.env = (do
      let ov ← eval (.Name x p1) X.env
      standAt p2.atName
      let (f, first) ← holding [ov] (getMethod ov "__init__" pl)
      callWith pos f first (backTo pos (starEach (e :: es) X.env)) (backToKw pos (keywordEach [] X.env))) := by rfl)
    (he : starEach (e :: es) X.env = (false, eval e X.env) :: starEach es X.env := by rfl) (hpl : (backTo pos (starEach es X.env)).any (·.1) = false := by rfl) :
    PE X (.Call (.Attribute (.Name x p1) "__init__" p2) (e :: es) [] pos) (tIni X.K ini ta) := by
  refine ⟨fun pins s σ H Q I h => ?_⟩
  refine PySem.W.methodCall_KW (B.run I fun s' J => ?_) hc
  show wpAny _ _ (callWith pos (Value.builtin ini) [] (backTo pos (starEach (e :: es) X.env)) []) _ _ _
  refine PyProof.Rows.callWith_method1 (thn (ha.run pos pins _ σ H _ J h) fun us t1 ht => ?_) he hpl
  obtain ⟨vs, G, J1, rv, a, Co, rest, rfl, hl, O, ea, q⟩ := ht
  cases rv with
  | @cons _ u _ ur ra rr =>
    have eu : u = Value.ref a := ra
    subst eu
    have lr : rest.length = ur.length := Paired.length rr
    exact iniG O J1 ea (by rw [sizeLine_eq]; omega) fun s' J2 => ⟨.non, G, J2, rfl, q⟩
/-- the base class T of the text, whose __init__ is ini -/
structure OexB (K : PySem.W.Frag) (T : Addr) (ini : String) : Prop where
  ga : PySem.W.specialIn K (.ref T) "__getattribute__" = some (some (.builtin "type.__getattribute__"))
  rd : ∃ mc, PySem.W.readsIn K T mc = true ∧ PySem.W.findCls K (.ref T) mc "__init__" = some (.val (.builtin ini))
theorem base_own {x : Str} {T : Addr} {ini : String} (B : OexB X.K T ini) (hg : Gl X x) (hm : X.mg x = some (.ref T)) (hh : PySem.W.handedIn (.builtin ini) = true := by decide +kernel) (hdb : (x == ("__debug__" : Str)) = false := by decide) : BaseI X x ini := by
  obtain ⟨mc, hr, hv⟩ := B.rd
  exact ⟨fun I h => ld_glob I hg hm (PySem.W.method_cls I.kIn B.ga (PySem.W.cls_value I.kIn hr hv hh (h _ (I.tok _)))) hdb⟩
theorem base_blt {x : Str} {B ini : String} (hg : Gl X x) (hm : X.mg x = none) (hb : bootBuiltins x = some (.type B)) (hv : PySem.W.findCls X.K (.type B) (.type "type") "__init__" = some (.val (.builtin ini))) (ht : typeOf (.type B) = pure (.type "type")) (hst : Manifest.isStub B = false := by decide +kernel)
    (hh : PySem.W.handedIn (.builtin ini) = true := by decide +kernel) (hn : x ≠ "__name__" := by decide) (hdb : (x == ("__debug__" : Str)) = false := by decide) : BaseI X x ini :=
  ⟨fun I h => ld_blt I hg hm hb (let ⟨_, fr⟩ := I.fr; PySem.W.method_type fr I.ok.mod.kin ht hst hv hh (h _ (I.tok _))) hn hdb⟩
end
/-! ### an exception with fields is made and raised -/
/-- what an own __init__ keeps that sets the fields fs -/
def spIn (K : PySem.W.Frag) (ini : String) (fs : List Str) : Sp := fun vs H Q _ => ∃ (a C : Addr) (ys : List V), vs = .ref a :: ys ∧ ys.length = fs.length ∧ OexG K C ini ∧ (∀ f ∈ fs, PySem.W.findIn K (.ref C) f = some none) ∧ H a = some (exo a C none) ∧
  ∀ dx H2, H dx = none → dx ≠ a → H2 a = some (exo a C (some dx)) → H2 dx = some (exd dx (fs.zip ys).reverse) → (∀ b, b ≠ a → b ≠ dx → H2 b = H b) → Q .non H2
def tMkG (C : Addr) (fs : List Str) (ta : TA) : L2.St → Hp → XK → Prop := fun σ H Q => ta σ H fun vs H1 => vs.length = fs.length ∧ fs.length ≤ 900 ∧ ∀ dx, H1 dx = none → Q (.ref C) (some dx) (upd H1 dx (.xd (fs.zip vs).reverse))
theorem pmk_G {X : Cx} {CX : CXT} {x : Str} {C fI : Addr} {k : Nat} {fd : FuncData} {ps fs : List Str} {ini : String} {e : Expr} {es : List Expr} {ta : TA} {p pos : Pos} (T : OexG X.K C ini) (hno : ∀ f ∈ fs, PySem.W.findIn X.K (.ref C) f = some none) (iC : PySem.W.findIn X.K (.ref C) "__init__" = some (some (.ref fI))) (tI : PySem.W.typeIn X.K (.ref fI) = some (.type "function"))
    (F1 : FnOk X.prog X.w X.K X.mg X.base CX k fI fd ps (spIn X.K ini fs)) (hr : Room (k + 1) X.A) (hb : Binds X.K fd ps []) (hx : Passes CX X (fun _ _ _ => False)) (hg : Gl X x) (hm : X.mg x = some (.ref C)) (ha : PA X (e :: es) ta)
    (hdb : (x == ("__debug__" : Str)) = false := by decide) (he : starEach (e :: es) X.env = (false, eval e X.env) :: starEach es X.env := by rfl) (hpl : (backTo pos (starEach es X.env)).any (·.1) = false := by rfl) :
    PMk X (.Call (.Name x p) (e :: es) [] pos) (tMkG C fs ta) := by
  intro pins s σ H Q I h
  obtain ⟨bm, bmB, B, nw, ⟨nm, q, N, bs, sn, sub, ab, col, dd, k0, k1, k2, k3, k5, hC⟩, FB, hT, _, _⟩ := T.cls
  refine wpAny_Call_Name_kw (ld_glob I hg hm ?_ hdb)
  refine PySem.W.callWith_K (h₀ := X.base) I.ok.mod.kin T.kC (thn (ha.run pos pins s σ H _ I h) fun us s1 got => ?_) he hpl
  obtain ⟨vs, H1, I1, r1, hl, h9, q1⟩ := got
  refine ⟨I1.kIn, ?_⟩
  show wpAny _ _ (call (.ref C) us) _ _ _
  obtain ⟨hp, g, dr, tk, os⟩ := s1
  have up : hp.objs.size ≤ hp.objs.size + 1 := Nat.le_succ _
  have hn : H1 (hp.objs.size + 1) = none := I1.hok.fresh up
  have kk : ∀ b o, hp.get? b = some o → ((hp.push (PySem.W.kdv_tup us)).push (PySem.HandSPX.excO C hp.objs.size)).get? b = some o := fun b o e => Heap.get?_push_of_some _ (Heap.get?_push_of_some _ e)
  have hget : ((hp.push (PySem.W.kdv_tup us)).push (PySem.HandSPX.excO C hp.objs.size)).get? (hp.objs.size + 1) = some (PySem.HandSPX.excO C hp.objs.size) := by heap_get
  have I2 : Inv X pins σ (upd H1 (hp.objs.size + 1) (exo (hp.objs.size + 1) C none)) ⟨(hp.push (PySem.W.kdv_tup us)).push (PySem.HandSPX.excO C hp.objs.size), g, dr, tk, os⟩ :=
    I1.laid (t' := tk) (a := hp.objs.size + 1) (o := exo (hp.objs.size + 1) C none) (h' := (hp.push (PySem.W.kdv_tup us)).push (PySem.HandSPX.excO C hp.objs.size)) kk up (exo_ok hget)
  have lu : us.length = vs.length := (Paired.length r1).symm
  have says : spIn X.K ini fs (V.ref (hp.objs.size + 1) :: vs) (upd H1 (hp.objs.size + 1) (exo (hp.objs.size + 1) C none)) (fun v H2 => v = .non ∧ ∃ d : Addr, H2 (hp.objs.size + 1) = some (exo (hp.objs.size + 1) C (some d)) ∧ H2 d = some (exd d (fs.zip vs).reverse) ∧ H1 d = none ∧ (∀ b, b ≠ hp.objs.size + 1 → b ≠ d → H2 b = H1 b)) (fun _ _ _ => False) :=
    ⟨_, C, vs, rfl, hl, T, hno, upd_same, fun dx H2 hd hne e1 e2 e3 => ⟨rfl, dx, e1, e2, by rw [upd_ne hne] at hd; exact hd, fun b b1 b2 => by rw [e3 b b1 b2, upd_ne b1]⟩⟩
  have r2 : Vals (V.ref (hp.objs.size + 1) :: vs) (Value.ref (hp.objs.size + 1) :: us) := .cons rfl r1
  have hlp : (Value.ref (hp.objs.size + 1) :: us).length = ps.length := by
    have z := F1.len _ _ _ _ says
    rw [← z, List.length_cons, List.length_cons, lu]
  have hus : us.length ≤ sizeLine := by rw [sizeLine_eq]; omega
  have bnd := hb _ (Value.ref (hp.objs.size + 1) :: us) I2.kIn (by rw [List.append_nil]; exact hlp)
  rw [List.append_nil] at bnd
  refine wpAny_call (PySem.HandSPX.call_own FB hT (I1.kIn _ _ hC) (PySem.W.looks_findIn I1.kIn iC) (fun self => PySem.W.bind_fn I1.kIn self tI) hus
    (codeAny_mono (F1.run _ X.stack _ _ ⟨Value.ref (hp.objs.size + 1) :: us, []⟩ (Value.ref (hp.objs.size + 1) :: us) _ _ (fun _ _ _ => False) (hr.make C us []) (I2.env0.make C us []) bnd r2 says) fun r s' got => ?_))
  cases r with
  | error er => exact hx pins σ _ _ er s' I2 got
  | ok fl =>
    cases fl with
    | ret u =>
      obtain ⟨v, H2, os2, bare2, un2, hok2, rv, rfl, dx, ea, ed, hd1, rest⟩ := got
      obtain ⟨h2, g2, d2, t2, os'⟩ := s'
      have eH : upd (del H2 (hp.objs.size + 1)) dx (.xd (fs.zip vs).reverse) = upd H1 dx (.xd (fs.zip vs).reverse) := funext fun b => by
        by_cases hb : b = dx
        · rw [hb, upd_same, upd_same]
        · rw [upd_ne hb, upd_ne hb]
          by_cases hb2 : b = hp.objs.size + 1
          · rw [hb2, del_same, hn]
          · rw [del_ne hb2, rest b hb2 hb]
      exact ⟨rv, mk_end (raises_own T.exC T.tyC) I1 up kk un2 hok2 os2 bare2 ea ed hd1 (by rw [eH]; exact q1 dx hd1)⟩
    | next => exact False.elim got
    | brk => exact False.elim got
    | cont => exact False.elim got
def sRaise (cls : Str) (fs : List Str) (dm : M (List D)) : Sm := fun ε => (dm ε).toS fun ds ε1 => if ds.length = fs.length ∧ fs.length ≤ 900 then .err ⟨cls, (fs.zip ds).reverse⟩ ε1 else .bad
theorem paired_zip {K : PySem.W.Frag} {H H' : Hp} (s : Same H H') : ∀ {fs : List Str} {vs : List V} {ds : List D}, DqAll K H vs ds → Paired (fun (p : Str × V) (q : Str × D) => p.1 = q.1 ∧ Dq K H' p.2 q.2) (fs.zip vs) (fs.zip ds)
  | [], _, _, _ => by simpa using Paired.nil
  | f :: fs, _, _, .nil => by simpa using Paired.nil
  | f :: fs, _, _, .cons a b => .cons ⟨rfl, a.mono s⟩ (paired_zip s b)
theorem paired_rev {α β : Type} {R : α → β → Prop} : ∀ {l : List α} {m : List β}, Paired R l m → Paired R l.reverse m.reverse
  | _, _, .nil => .nil
  | _, _, .cons a b => by
    rw [List.reverse_cons, List.reverse_cons]
    have app : ∀ {l1 l2 : List α} {m1 m2 : List β}, Paired R l1 m1 → Paired R l2 m2 → Paired R (l1 ++ l2) (m1 ++ m2) := by
      intro l1 l2 m1 m2 h1 h2
      induction h1 with
      | nil => exact h2
      | cons x _ ih => exact .cons x ih
    exact app (paired_rev b) (.cons a .nil)
theorem snds_raise {C : Ct} {Cc : Addr} {cls : Str} {fs : List Str} {dm : M (List D)} {ta : TA} (hc : PySem.W.nsIn C.K mainGlobals cls = some (some (.ref Cc))) (h : Snd C relDs ta dm) :
    SndS C (fun _ σ H => tMkG Cc fs ta σ H fun cls d H' => C.W cls d σ H') (sRaise cls fs dm) := by
  intro Hf H w σ ε D E P
  unfold sRaise at P
  refine h.toS E P fun ds ε1 Hf1 H1 w1 S vs _ E1 st rb P1 => ?_
  split at P1
  · rename_i hl
    have lv : vs.length = ds.length := rb.2.length
    refine ⟨by omega, hl.2, fun dx hd1 => ?_⟩
    exact P1 _ _ w1 σ (.ref Cc) (some dx) (E1.lay hd1) (st.noS.trans (Stp.lay E1.sub hd1)) ⟨Cc, rfl, hc, .inr ⟨dx, _, rfl, upd_same, paired_rev (paired_zip (same_upd (same_none E1.sub hd1)) rb.2)⟩⟩
  · exact P1.elim
/-! ### own __init__s -/
section
variable {K : PySem.W.Frag} {σ : L2.St} {H : Hp} {m f g k : Str} {a C : Addr} {x y z : V} {D : Ends} {ini : String}
abbrev tBase (K : PySem.W.Frag) (ini : String) (m : Str) : TS := tDrop (tIni K ini (tCons (tVar 0) (tCons (tC (.str m)) tNil)))
theorem base_go (h0 : σ[0]? = some (some (V.ref a))) (T : OexG K C ini) (e : H a = some (exo a C none)) (h : D.nx σ H) : tBase K ini m D σ H :=
  ⟨V.ref a, h0, a, C, [.str m], rfl, by simp, T, e, h⟩
end
section
variable {K : PySem.W.Frag} {H : Hp} {m f g k : Str} {N : List Str} {vs : List V} {Q : VK} {E : XK} {ini : String}
theorem in2_go (h : spIn K ini [f, g] vs H Q E) : tSeq (tBase K ini m) (tSeq (tOstG K f (tVar 0) (tVar 1)) (tOstG K g (tVar 0) (tVar 2))) { nx := fun _ H' => Q .non H', rt := Q } (L2.start N vs) H := by
  obtain ⟨a, C, ys, rfl, hl, T, hf, e, hq⟩ := h
  match ys, hl with
  | [y, z], _ =>
    have h0 : (L2.start N [V.ref a, y, z])[0]? = some (some (V.ref a)) := start_get (by simp)
    have h1 : (L2.start N [V.ref a, y, z])[1]? = some (some y) := start_get (by simp)
    have h2 : (L2.start N [V.ref a, y, z])[2]? = some (some z) := start_get (by simp)
    refine base_go h0 T e ⟨y, h1, _, h0, a, C, ini, rfl, T, hf f (by simp), .inl ⟨e, fun dx hd hne => ?_⟩⟩
    refine ⟨z, h2, _, h0, a, C, ini, rfl, T, hf g (by simp), .inr ⟨dx, [(f, y)], upd_same, by rw [upd_ne hne, upd_same], by simp, ?_⟩⟩
    exact hq dx _ hd hne (by rw [upd_ne (Ne.symm hne), upd_same]) (by rw [upd_same]; rfl) (fun b hb hx => by rw [upd_ne hx, upd_ne hb, upd_ne hx])
end
/-- a method's def, inside a class -/
def defIn (s : Stmt) (i : Nat) : Stmt := match s with
  | .ClassDef _ _ _ body _ _ _ _ _ _ _ => body.getD i (.Pass ⟨0, 0, 0, 0⟩)
  | s => s
/-- an own class of exceptions with the fields fs, to be raised -/
structure Rse (P : Program) (w : World) (K : PySem.W.Frag) (mg : Str → Option Value) (base : Heap) (CX : CXT) (x : Str) (fs : List Str) : Prop where
  ex : ∃ (C fI : Addr) (fd : FuncData) (ps : List Str) (ini : String), mg x = some (.ref C) ∧ PySem.W.nsIn K mainGlobals x = some (some (.ref C)) ∧ OexG K C ini ∧ (∀ f ∈ fs, PySem.W.findIn K (.ref C) f = some none) ∧ PySem.W.findIn K (.ref C) "__init__" = some (some (.ref fI)) ∧
    PySem.W.typeIn K (.ref fI) = some (.type "function") ∧ FnOk P w K mg base CX 1 fI fd ps (spIn K ini fs) ∧ Binds K fd ps []
def tRz (K : PySem.W.Frag) (W : WX) (x : Str) (fs : List Str) (ta : TA) : TS := fun _ σ H => ∃ Cc : Addr, PySem.W.nsIn K mainGlobals x = some (some (.ref Cc)) ∧ tMkG Cc fs ta σ H fun cls d H' => W cls d σ H'
theorem ms_raise {X : Cx} {C : Ct} {x : Str} {fs : List Str} {e : Expr} {es : List Expr} {ta : TA} {dm : M (List D)} {p p2 pos : Pos} (R : Rse X.prog X.w X.K X.mg X.base (L2.CX X.prog X.w) x fs) (hr : Room 2 X.A) (tk : Takes X C.W) (ha : MDs X C (e :: es) ta dm) (hcalm : X.calm = true := by rfl) (hg : Gl X x := by rfl)
    (hdb : (x == ("__debug__" : Str)) = false := by decide) (he : starEach (e :: es) X.env = (false, eval e X.env) :: starEach es X.env := by rfl) (hpl : (backTo p2 (starEach es X.env)).any (·.1) = false := by rfl) :
    MS X C (.Raise (some (.Call (.Name x p) (e :: es) [] p2)) none pos) (tRz C.K C.W x fs ta) (sRaise x fs dm) := by
  obtain ⟨Cc, fI, fd, ps, ini, h1, h2, h3, h4, h5, h6, h7, h8⟩ := R.ex
  have hK := ha.hK
  refine ⟨⟨fun pins s σ H D I h => ?_⟩, ?_⟩
  · obtain ⟨C2, e2, h⟩ := h
    rw [← hK, h2] at e2
    injection e2 with e3
    injection e3 with e4
    injection e4 with e5
    subst e5
    have q := ps_raise (pos := pos) hcalm tk (pmk_G (p := p) h3 h4 h5 h6 h7 hr h8 (fun pins σ H s e s' I c => by
      obtain ⟨_, _, _, _, _, _, _, _, _, _, _, _, z⟩ := c
      exact z.elim) hg h1 ha.pa hdb he hpl)
    exact q.run pins s σ H D I h
  · have q := snds_raise (C := C) (cls := x) (fs := fs) (by rw [← hK]; exact h2) ha.sn
    exact fun Hf H w σ ε D E P => ⟨Cc, by rw [← hK]; exact h2, q Hf H w σ ε D E P⟩
end M3

namespace M3
open PySem PySem.Spec L2
open PyProof.Rows hiding St
/-! ### try: .. except X as n: k = n: the exception is kept behind the suite -/
section
variable {X : Cx} {pins : List (Addr × Obj)} {σ : L2.St} {H : Hp} {s : Shared}
theorem exh_ok {P : Program} {w : World} {G : Hp} {h : Heap} {a : Addr} {cls : Value} {d : Option Addr} {oe : Obj} {vs : Array Value} (e : h.get? a = some oe) (z : Zc cls d oe) (hd : oe.data = .fields vs) : ObjOk P w G h a (exh a cls d) :=
  ⟨⟨oe, vs, e, z, hd⟩, ⟨oe, e⟩, fun _ _ ⟨o, v, q, r⟩ k => ⟨o, v, k o q, r⟩⟩
/-- what the suite held is tracked from now on -/
theorem track {a : Addr} {oe : Obj} {vs : Array Value} {cls : Value} {d : Option Addr} (S : Inv (X.suite a ((a, oe) :: (X.pn ++ pins))) [] σ H s) (ok : X.Ok) (hz : Zc cls d oe) (hd : oe.data = .fields vs) (n0 : X.s_0.heap.get? a = none) (np : ∀ p ∈ X.pn ++ pins, p.1 ≠ a) :
    Inv X pins σ (upd H a (exh a cls d)) s := by
  have pa := S.pin (a, oe) (List.mem_append_left _ List.mem_cons_self)
  obtain ⟨ea, na, nL, nF, nc⟩ := pa
  have ne : ∀ {b : Addr} {u : HO}, H b = some u → b ≠ a := fun q z => by rw [z, na] at q; cases q
  refine ⟨ok, S.os, S.bare, ⟨S.base.keep, S.base.slot, fun b o e n hx => ?_, S.base.there, fun b xs q => ?_, fun b o u q => ?_, fun b ps q => ?_⟩, S.loc, S.cell, ?_, fun x c q => ?_, fun p hp => ?_, fun b u q => ?_, S.len⟩
  · rw [upd_ne (fun z => by rw [z, n0] at e; cases e)]
    exact S.base.free b o e n hx
  · have q2 := S.base.tups b xs q
    rw [upd_ne (ne q2)]; exact q2
  · have q2 := S.base.frzs b o u q
    rw [upd_ne (ne q2)]; exact q2
  · obtain ⟨m, q2⟩ := S.base.tbls b ps q
    exact ⟨m, by rw [upd_ne (ne q2)]; exact q2⟩
  · rw [upd_ne (Ne.symm nL)]; exact S.free
  · rw [upd_ne]
    · exact S.freeC x c q
    · intro z
      obtain ⟨v, o, ho, hdat⟩ := S.cell x c q
      rw [z, ea] at ho
      injection ho with ho
      exact nc _ (by rw [← ho] at hdat; exact hdat)
  · obtain ⟨e1, e2, e3, e4, e5⟩ := S.pin p (List.mem_append_left _ (List.mem_cons_of_mem _ hp))
    exact ⟨e1, by rw [upd_ne (np p hp)]; exact e2, e3, e4, e5⟩
  · by_cases hb : b = a
    · subst hb
      rw [upd_same] at q
      cases q
      exact exh_ok ea hz hd
    · rw [upd_ne hb] at q
      exact (S.hok b u q).stay (fun c v _ z => z) (fun c z => by rw [upd_ne (ne z)]; exact z) fun c xs z => by rw [upd_ne (ne z)]; exact z
end
/-- the wish of such a try's body -/
def wKeep (K : PySem.W.Frag) (cv : Value) (i : Nat) (ts : TS) (Wout : WX) (D : Ends) : WX := fun cls d σ H =>
  ∃ b, PySem.W.exmOne K cls cv = some b ∧ (b = true → ∀ a, H a = none → ts { nx := fun σ' H' => D.nx (σ'.set i none) (upd H' a (exh a cls d)), rt := fun _ _ => False, bk := fun _ _ => False, ct := fun _ _ => False } (σ.set i (some (.ref a))) H) ∧
    (b = false → Wout cls d σ H)
section
variable {X : Cx} {x n : Str} {cv : Value} {i : Nat} {body suite : List Stmt} {b₀ : Stmt} {np pos pos' : Pos} {tb : WX → TS} {ts : TS} {Wout : WX}
theorem ps_try_keep (hs : X.stack = X.env :: X.outer) (hf : X.env.frame = some X.env.locals) (hex : X.ex = []) (hN : X.N.Nodup) (hi : X.N[i]? = some n) (hln : X.env.kindOf n = some .local) (hc : Names X x cv) (tk : Takes X Wout)
    (hb : ∀ (W : WX) (pn : List (Addr × Obj)) (xe : Value → Shared → Prop), Takes (X.tr pn xe) W → PassesOwn (model X.prog X.w) X.A X.env xe → PSs (X.tr pn xe) body (tb W))
    (hsu : ∀ (a : Addr) (oe : Obj) (pn : List (Addr × Obj)), PSs (X.suite a ((a, oe) :: pn)) (b₀ :: suite) ts) :
    PS X (.Try body [.ExceptHandler (some (.Name x np)) (some n) (b₀ :: suite) pos'] [] [] pos) (fun D σ H => tb (wKeep X.K cv i ts Wout D) D σ H) := by
  refine ⟨fun pins s σ H D I h => ?_⟩
  have ok := I.ok
  have frs' : X.A.frames = some (X.env :: X.outer) := by rw [ok.frames, hs]
  refine wpAny_Try_except ?_
  have body_run := hb (wKeep X.K cv i ts Wout D) (X.pn ++ pins) (fun e s₁ => wpAny (model X.prog X.w) X.A (noteFrame e X.env) (fun _ s₂ => wpAny (model X.prog X.w) X.A (setFlight e none) (fun _ s₃ =>
    wpAny (model X.prog X.w) X.A (handleBy e X.env [.ExceptHandler (some (.Name x np)) (some n) (b₀ :: suite) pos']) (SP X pins D) X.xe s₃) X.xe s₂) X.xe s₁) (fun u t1 air => ?_) PassesOwn.looking
  · refine wpAny_mono (body_run.run [] s σ H D (I.toTry _) h) (fun f s1 got => ?_) fun _ _ z => z
    cases f with
    | next =>
      obtain ⟨σ1, H1, J, q⟩ := got
      exact wpAny_execs_nil ⟨σ1, H1, J.ofTry ok, q⟩
    | brk =>
      obtain ⟨σ1, H1, J, q⟩ := got
      exact ⟨σ1, H1, J.ofTry ok, q⟩
    | cont =>
      obtain ⟨σ1, H1, J, q⟩ := got
      exact ⟨σ1, H1, J.ofTry ok, q⟩
    | ret u =>
      obtain ⟨v, σ1, H1, J, r, q⟩ := got
      exact ⟨v, σ1, H1, J.ofTry ok, r, q⟩
  · -- what is caught
    obtain ⟨a, B, sI, pins1, σ1, H1, cls, d, rfl, J1, nb, up, sky, na, os, ag, b, hb1, yes, no⟩ := air
    have J : Inv X pins σ1 H1 sI := J1.ofTry ok
    have sky1 : Sky B (X.env :: X.outer) a (Zc cls d) X.env.locals t1.heap := by rw [← hs]; exact sky
    show wpAny (model X.prog X.w) X.A (noteFrame (.ref a) X.env) _ _ _
    refine Sky.land Zc.steady frs' hf sky1 fun h3 fl3 up3 => ?_
    have J3 : Inv X pins σ1 H1 { t1 with heap := h3 } := J.landed nb fl3.1 (up.trans up3) os ag
    obtain ⟨oe3, vs3, he3, hz3, hd3⟩ := fl3.there
    have out : a ∉ frs (X.env :: X.outer) := fun hm => by
      obtain ⟨_, o, q, hnf⟩ := fl3.2.2.1.mem hm
      rw [he3] at q
      cases q
      exact hnf _ hd3
    have nL : a ≠ X.env.locals := fun z => out (List.mem_filterMap.mpr ⟨X.env, List.mem_cons_self, by rw [hf, z]⟩)
    have nF : a ∉ X.fs := fun hm => by
      obtain ⟨v, hv, q⟩ := List.mem_filterMap.mp hm
      exact out (List.mem_filterMap.mpr ⟨v, List.mem_cons_of_mem _ hv, q⟩)
    have freshI : sI.heap.get? a = none := by
      cases q : sI.heap.get? a with
      | none => rfl
      | some o =>
        have z := nb a o q (by rw [hs]; exact out)
        rw [fl3.2.1] at z
        cases z
    have n0 : X.s_0.heap.get? a = none := by
      cases q : X.s_0.heap.get? a with
      | none => rfl
      | some o =>
        obtain ⟨o', z⟩ := J.base.there a o q (by rw [hex]; exact fun z => nomatch z)
        rw [freshI] at z
        cases z
    have notPin : ∀ p ∈ X.pn ++ pins, p.1 ≠ a := fun p hp z => by
      have q := (J.pin p hp).1
      rw [z, freshI] at q
      cases q
    have S3 := J3.suite he3 hd3 na nL nF
    refine wpAny_handleBy_cons (codeAny_handlers_test ?_) (by intro q; cases q)
    have LT : PySem.W.Looks (model X.prog X.w) h3 (typeOf (.ref a)) cls := fun A Q E s k q => wpAny_typeOf_ref (k _ _ he3) (by rw [hz3.1]; exact q)
    have LM := PySem.W.exm_one (M := model X.prog X.w) (J3.kIn) LT hb1
    have asked : ∀ {Q : Value → Shared → Prop} {E : Value → Shared → Prop}, Q cv { t1 with heap := h3 } → wpAny (model X.prog X.w) (X.A.mark (some (.ref a))) (eval (.Name x np) X.env) Q E { t1 with heap := h3 } := fun {Q E} q => by
      obtain ⟨hg, hdbg, hm | ⟨hm, hv, hnn⟩⟩ := hc
      · exact ld_glob (X := X.suite a ((a, oe3) :: (X.pn ++ pins))) S3 hg hm q hdbg
      · exact ld_blt (X := X.suite a ((a, oe3) :: (X.pn ++ pins))) S3 hg hm hv q hnn hdbg
    refine asked (LM.here ?_)
    cases b with
    | true =>
      refine codeAny_handlers_suite_as ?_
      refine HandSPX.lands_againZ fl3 fun h4 fl4 up4 => ?_
      have J4 : Inv X pins σ1 H1 { t1 with heap := h4 } := J.landed nb fl4.1 ((up.trans up3).trans up4) os ag
      obtain ⟨oe4, vs4, he4, hz4, hd4⟩ := fl4.there
      have S4 := J4.suite he4 hd4 na nL nF
      refine L2.store_ok (X := X.suite a ((a, oe4) :: (X.pn ++ pins))) (v := .ref a) S4 hN hi (.inl hln) rfl (fun s5 S5 => ?_) (.inr hln)
      refine wpAny_mono ((hsu a oe4 (X.pn ++ pins)).run [] s5 _ H1 _ S5 (yes rfl a na)) (fun f s6 got => ?_) (fun _ _ z => False.elim z)
      cases f with
      | next =>
        obtain ⟨σ6, H6, S6, q6⟩ := got
        exact gone_ok (X := X.suite a ((a, oe4) :: (X.pn ++ pins))) S6 hN hi hln fun s7 S7 => ⟨_, _, track S7 ok hz4 hd4 n0 notPin, q6⟩
      | brk => exact got.choose_spec.choose_spec.2.elim
      | cont => exact got.choose_spec.choose_spec.2.elim
      | ret u =>
        obtain ⟨v6, σ6, H6, S6, r6, q6⟩ := got
        exact q6.elim
    | false =>
      show wpAny _ X.A (handleBy (.ref a) X.env []) _ _ _
      refine wpAny_handleBy_nil ?_
      obtain ⟨k1, k2, k3, oe, vs, T, oT, ts', he, hz, hd, h1, hr⟩ := id fl3
      unfold PySem.passOn
      refine wpAny_bind (wpAny_field he hd h1 ?_)
      rw [if_neg (show ¬ ((Value.ref T == Value.none) = true) from by simp)]
      have on : wpAny (model X.prog X.w) X.A (setFlight (.ref a) X.env.frame) (fun _ s4 => wpAny (model X.prog X.w) X.A (throw (.ref a) : Sem Flow) (SP X pins D) X.xe s4) X.xe { t1 with heap := h3 } := by
        rw [hf]
        refine HandSPX.setFlight_upZ fl3 fun h4 hh4 up4 => wpAny_throw (tk _ _ ?_)
        exact ⟨a, B, sI, pins, σ1, H1, cls, d, rfl, J, nb, (up.trans up3).trans up4, .inr (.inr (by rw [hs]; exact hh4)), na, os, ag, no rfl⟩
      first
        | exact wpAny_bind (wpAny_pure (wpAny_bind on))
        | exact wpAny_bind on
end
end M3

namespace M3
open PySem PySem.Spec L2
open PyProof.Rows hiding St
/-! ### the kept exception: the mirror of such a try -/
section
variable {C : Ct} {Hf H : Hp} {w : Own} {σ : L2.St} {ε : En}
theorem EnR.keepExc (E : EnR C Hf H w σ ε) {a : Addr} {i k : Nat} {x : Xn} {cls : Value} {d : Option Addr} (na : H a = none) (hx : XnR C.K Hf cls d x) (hk : C.own.contains k = false) (hi : C.own.contains i = false) (hik : i ≠ k) :
    EnR C (upd Hf a (exh a cls d)) (upd H a (exh a cls d)) (fun j b => j ≠ k ∧ j ≠ i ∧ w j b) (((σ.set i (some (.ref a))).set k (some (.ref a))).set i none) ((ε.set k (some (.own (.exc x)))).set i none) := by
  have E1 : EnR C (upd Hf a (exh a cls d)) (upd H a (exh a cls d)) w σ ε := E.lay na
  have sm : Same Hf (upd Hf a (exh a cls d)) := same_upd (same_none E.sub na)
  refine ⟨E1.sub, fun j => ?_, fun p q b h1 h2 => E.sep p q b h1.2.2 h2.2.2, fun j b h => E1.fre j b h.2.2, by simp [E.len], fun j v h1 h2 => ?_⟩
  · by_cases q1 : j = i
    · subst q1
      have nn : ∀ b, ¬ (j ≠ k ∧ j ≠ j ∧ w j b) := fun b z => z.2.1 rfl
      by_cases hl : j < σ.length
      · rw [List.getElem?_set_self (by simpa using hl), List.getElem?_set_self (by rw [List.length_set, ← E.len]; exact hl)]
        exact nn
      · rw [List.getElem?_eq_none (by simpa using hl), List.getElem?_eq_none (by rw [List.length_set, List.length_set, ← E.len]; omega)]
        exact nn
    · rw [List.getElem?_set_ne (Ne.symm q1), List.getElem?_set_ne (Ne.symm q1)]
      by_cases q2 : j = k
      · subst q2
        have nn : ∀ b, ¬ (j ≠ j ∧ j ≠ i ∧ w j b) := fun b z => z.1 rfl
        by_cases hl : j < σ.length
        · rw [List.getElem?_set_self (by simpa using hl), List.getElem?_set_self (by rw [← E.len]; exact hl)]
          exact ⟨a, rfl, nn, cls, d, upd_same, hx.mono sm⟩
        · rw [List.getElem?_eq_none (by simpa using hl), List.getElem?_eq_none (by rw [List.length_set, ← E.len]; omega)]
          exact nn
      · rw [List.getElem?_set_ne (Ne.symm q2), List.getElem?_set_ne (Ne.symm q1), List.getElem?_set_ne (Ne.symm q2)]
        exact SlotR.congr (fun b => ⟨fun z => z.2.2, fun z => ⟨q2, q1, z⟩⟩) (E1.slot j)
  · have q1 : j ≠ i := fun z => by rw [z, hi] at h1; cases h1
    have q2 : j ≠ k := fun z => by rw [z, hk] at h1; cases h1
    rw [List.getElem?_set_ne (Ne.symm q1), List.getElem?_set_ne (Ne.symm q2), List.getElem?_set_ne (Ne.symm q1)]
    exact E.fix j v h1 h2
end
/-- what a clause's test of cv answers: yes of the classes cs, no of the classes os -/
structure ExcT (K : PySem.W.Frag) (cs os : List Str) (cv : Value) : Prop where
  yes : ∀ n ∈ cs, ∀ C : Addr, PySem.W.nsIn K mainGlobals n = some (some (.ref C)) → PySem.W.exmOne K (.ref C) cv = some true
  no : ∀ n ∈ os, ∀ C : Addr, PySem.W.nsIn K mainGlobals n = some (some (.ref C)) → PySem.W.exmOne K (.ref C) cv = some false
def sTryKeep (cs os : List Str) (i k : Nat) (body : Sm) : Sm := fun ε => match body ε with
  | .err x ε' => if x.cls ∈ cs ∧ i < ε'.length then .nx ((ε'.set k (some (.own (.exc x)))).set i none) else if x.cls ∈ os then .err x ε' else .bad
  | r => r
theorem snds_tryKeep {C : Ct} {cs os : List Str} {cv : Value} {i k : Nat} {tb : WX → TS} {mb : Sm} (T : ExcT C.K cs os cv) (hk : C.own.contains k = false) (hi : C.own.contains i = false) (hik : i ≠ k) (hb : ∀ W : WX, SndS ⟨C.K, C.own, C.vs, W⟩ (tb W) mb) :
    SndS C (fun D σ H => tb (wKeep C.K cv i (tAsg (tVar i) (gName k)) C.W D) D σ H) (sTryKeep cs os i k mb) := by
  intro Hf H w σ ε D E P
  refine hb _ Hf H w σ ε D (E.recast rfl rfl rfl) ?_
  unfold sTryKeep at P
  cases e : mb ε with
  | nx ε' => rw [e] at P; exact fun Hf' H' w' σ' E' st => P Hf' H' w' σ' (E'.recast rfl rfl rfl) st
  | rt r ε' => rw [e] at P; exact fun Hf' H' w' σ' S v E' st r => P Hf' H' w' σ' S v (E'.recast rfl rfl rfl) st r
  | bk ε' => rw [e] at P; exact fun Hf' H' w' σ' E' st => P Hf' H' w' σ' (E'.recast rfl rfl rfl) st
  | ct ε' => rw [e] at P; exact fun Hf' H' w' σ' E' st => P Hf' H' w' σ' (E'.recast rfl rfl rfl) st
  | bad => rw [e] at P; exact P
  | err x ε' =>
    rw [e] at P
    intro Hf' H' w' σ' cls d E' st rx
    obtain ⟨Cc, e1, e2, e3⟩ := id rx
    dsimp only at P
    split at P
    · rename_i hc
      refine ⟨true, by rw [e1]; exact T.yes _ hc.1 Cc e2, fun _ a na => ?_, (fun z => by cases z)⟩
      have hl : i < σ'.length := by rw [E'.len]; exact hc.2
      refine ⟨.ref a, List.getElem?_set_self hl, ?_⟩
      have E2 : EnR C Hf' H' w' σ' ε' := E'.recast rfl rfl rfl
      exact P _ _ _ _ (E2.keepExc na rx hk hi hik) (st.trans ((Stp.lay E'.sub na).out fun b ⟨j, z⟩ => ⟨j, z.2.2⟩))
    · split at P
      · rename_i hc
        exact ⟨false, by rw [e1]; exact T.no _ hc Cc e2, (fun z => by cases z), fun _ => P Hf' H' w' σ' cls d (E'.recast rfl rfl rfl) st rx⟩
      · exact P.elim
theorem ms_tryKeep {X : Cx} {C : Ct} {x n kx : Str} {cv : Value} {body : List Stmt} {np p3 p4 p5 pos pos' : Pos} {tb : WX → TS} {mb : Sm} (cs os : List Str) (i k : Nat) (hc : Names X x cv) (T : ExcT C.K cs os cv) (tk : Takes X C.W) (hN : X.N.Nodup)
    (hb : ∀ (W : WX) (pn : List (Addr × Obj)) (xe : Value → Shared → Prop), Takes (X.tr pn xe) W → MSs (X.tr pn xe) ⟨C.K, C.own, C.vs, W⟩ body (tb W) mb)
    (hsu : ∀ (a : Addr) (oe : Obj) (pn : List (Addr × Obj)), PSs (X.suite a ((a, oe) :: pn)) [.Assign [.Name kx p3] (.Name n p4) p5] (tAsg (tVar i) (gName k)))
    (hK : X.K = C.K := by rfl) (hs : X.stack = X.env :: X.outer := by rfl) (hf : X.env.frame = some X.env.locals := by rfl) (hex : X.ex = [] := by rfl) (hi : X.N[i]? = some n := by rfl) (hln : X.env.kindOf n = some .local := by rfl) (hko : C.own.contains k = false := by rfl) (hio : C.own.contains i = false := by rfl) (hik : i ≠ k := by decide) :
    MS X C (.Try body [.ExceptHandler (some (.Name x np)) (some n) [.Assign [.Name kx p3] (.Name n p4) p5] pos'] [] [] pos) (fun D σ H => tb (wKeep C.K cv i (tAsg (tVar i) (gName k)) C.W D) D σ H) (sTryKeep cs os i k mb) := by
  refine ⟨?_, snds_tryKeep T hko hio hik fun W => (hb W [] (fun _ _ => True) fun _ _ _ => trivial).sn⟩
  · have q := ps_try_keep (pos := pos) (pos' := pos') (np := np) (cv := cv) (tb := tb) (ts := tAsg (tVar i) (gName k)) (Wout := C.W) hs hf hex hN hi hln hc tk (fun W pn xe t1 _ => (hb W pn xe t1).ps) hsu
    rw [hK] at q
    exact q
/-! ### what is asked of it -/
/-- is it None? -/
def mIsNX (neg : Bool) (i : Nat) : M RV := fun ε => match ε[i]? with
  | some (some (.own (.exc _))) => .ok (.fro (.bool neg)) ε
  | some (some (.fro d)) => .ok (.fro (.bool (neg ^^ isNoneD d))) ε
  | _ => .bad
section
variable {X : Cx} {C : Ct} {Hf H : Hp} {w : Own} {σ : L2.St} {ε : En}
theorem EnR.ownExc (E : EnR C Hf H w σ ε) {i : Nat} {x : Xn} (e : ε[i]? = some (some (.own (.exc x)))) : ∃ p cls d, σ[i]? = some (some (.ref p)) ∧ Hf p = some (exh p cls d) ∧ XnR C.K Hf cls d x := by
  have q := E.slot i
  rw [e] at q
  obtain ⟨p, h1, _, cls, d, h2, h3⟩ := q
  exact ⟨p, cls, d, h1, h2, h3⟩
theorem dq_non {K : PySem.W.Frag} {Hf : Hp} {v : V} {d : D} (h : Dq K Hf v d) : decide (v = .non) = isNoneD d := by
  cases h <;> simp [isNoneD]
theorem snd_isNX {i : Nat} : Snd C relRV (tOp (fun x y H Q => y = .non ∧ Q (.bl (decide (x = .non))) H) (tVar i) (tC .non)) (mIsNX false i) := by
  intro Hf H w σ ε Q E P
  unfold mIsNX at P
  split at P
  · rename_i x e
    obtain ⟨p, cls, d, h1, _, _⟩ := E.ownExc e
    exact ⟨_, h1, rfl, P.here E ⟨fun _ z => z, by rw [decide_eq_false (by simp)]; exact .bl _⟩⟩
  · rename_i d e
    have q := E.slot i
    rw [e] at q
    obtain ⟨_, v, h1, h2⟩ := q
    exact ⟨v, h1, rfl, P.here E ⟨fun _ z => z, by rw [dq_non h2, show (false ^^ isNoneD d) = isNoneD d by cases isNoneD d <;> rfl]; exact .bl _⟩⟩
  · exact P.elim
theorem mt_isNX {x : Str} {p p2 pos : Pos} {j : Nat} (i : Nat) (hN : X.N[i]? = some x := by rfl) (hv : Vis X.env.scope x := by first | exact Or.inl rfl | exact Or.inr (Or.inl rfl) | exact Or.inr (Or.inr rfl)) (hd : (x == ("__debug__" : Str)) = false := by decide) (hcd : (x == ("__classdict__" : Str)) = false := by decide) (hK : X.K = C.K := by rfl)
    (hm : behindInMarks .Is (.Constant .none j p2) = false := by first | exact nobehind _ (by decide) (by decide) | rfl | with_unfolding_all rfl) :
    MT X C (.Compare (.Name x p) [.Is] [.Constant .none j p2] pos) (tTest (tOp (fun x y H Q => y = .non ∧ Q (.bl (decide (x = .non))) H) (tVar i) (tC .non))) (mBl (mIsNX false i)) := ⟨pt_cmpR op_isN (pe_var hN hv hd hcd) pe_non hm, snd_bool snd_isNX, hK⟩
end
/-- what the written part says of a class of exceptions, so that its instances answer rightly -/
structure Xcl (K : PySem.W.Frag) (C : Addr) : Prop where
  ga : PySem.W.findIn K (.ref C) "__getattribute__" = some (some (.builtin "BaseException.__getattribute__"))
  gg : PySem.W.findIn K (.ref C) "__getattr__" = some none
  exC : PySem.W.subIn K (.ref C) (.type "BaseException") = some true
  hdC : PySem.W.hasDictIn K C = true
  cl : (PySem.W.clsIn K C).isSome = true
  ca : PySem.W.findIn K (.ref C) "__class__" = some (some (.builtin "object.__class__"))
  mo : PySem.W.mroIn K C (.type "object") = some true
  gn : PySem.W.specialIn K (.builtin "object.__class__") "__get__" = some (some (.builtin "getset_descriptor.__get__"))
  tk : PySem.W.takesIn K (.builtin "object.__class__") = some true
/-- of the classes ns the field f is no attribute -/
def XclF (K : PySem.W.Frag) (ns : List Str) (f : Str) : Prop := ∀ n ∈ ns, ∀ C : Addr, PySem.W.nsIn K mainGlobals n = some (some (.ref C)) → Xcl K C ∧ PySem.W.findIn K (.ref C) f = some none
def mXf (ns : List Str) (f : Str) (i : Nat) : M RV := fun ε => match ε[i]? with
  | some (some (.own (.exc x))) => if x.cls ∈ ns then (match x.fs.lookup f with
    | some d => .ok (.fro d) ε
    | none => .bad) else .bad
  | _ => .bad
def tXg (K : PySem.W.Frag) (f : Str) (te : TE) : TE := fun σ H Q => te σ H fun x H1 => ∃ (a C dd : Addr) (fs : List (Str × V)) (v : V), x = .ref a ∧ H1 a = some (exh a (.ref C) (some dd)) ∧ Xcl K C ∧ PySem.W.findIn K (.ref C) f = some none ∧ H1 dd = some (.xd fs) ∧ fs.lookup f = some v ∧ Q v H1
theorem pe_xg {X : Cx} {e : Expr} {te : TE} {f : Str} {pos : Pos} (he : PE X e te) (hb : attributeBase e f X.env (eval e X.env) = eval e X.env := by rfl) : PE X (.Attribute e f pos) (tXg X.K f te) := by
  refine ⟨fun pins s σ H Q I h => ?_⟩
  refine attr_of hb (thn (he.run pins s σ H _ I h) fun u s1 got => ?_)
  obtain ⟨x, G, J, rx, a, C, dd, fs, v, rfl, ea, T, hno, ed, lk, q⟩ := got
  have eu : u = Value.ref a := rx
  subst eu
  obtain ⟨⟨oe, vs, ho, hz, hd⟩, _, _⟩ : ObjOk X.prog X.w G s1.heap a (exh a (.ref C) (some dd)) := J.hok a _ ea
  have od : ObjOk X.prog X.w G s1.heap dd (.xd fs) := J.hok dd _ ed
  obtain ⟨mA, hns, hr⟩ := od
  obtain ⟨od, hod, hl⟩ := lookIn_ns hns
  obtain ⟨u, hu, ru⟩ := RelO.some_of (v := v) (o := mA f) (by rw [← lk]; exact hr f)
  have Z : PySem.W.InstAt s1.heap a oe C (some od) := ⟨ho, hz.1, by unfold PySem.W.notCls; rw [hd] <;> rfl, by rw [hz.2]; exact hod⟩
  exact HandSPX.exc_get J.kIn Z T.ga T.gg T.exC (PySem.W.findObj_own T.hdC hno rfl (by rw [hl, hu])) (handed_of ru) ⟨v, G, J.tok _, ru, q⟩
theorem paired_look {K : PySem.W.Frag} {Hf : Hp} {f : Str} {d : D} : ∀ {vs : List (Str × V)} {fs : List (Str × D)}, Paired (fun (p : Str × V) (q : Str × D) => p.1 = q.1 ∧ Dq K Hf p.2 q.2) vs fs → fs.lookup f = some d → ∃ v, vs.lookup f = some v ∧ Dq K Hf v d
  | _, _, .nil, e => by cases e
  | (g, v) :: vs, (g', d') :: fs, .cons h t, e => by
    obtain ⟨rfl, h2⟩ : g = g' ∧ Dq K Hf v d' := h
    rw [lookup_put] at *
    rw [List.lookup] at e
    by_cases q : f = g
    · subst q
      rw [if_pos rfl]
      simp at e
      subst e
      exact ⟨v, rfl, h2⟩
    · have q2 : (f == g) = false := by simpa using q
      rw [if_neg q]
      rw [q2] at e
      exact paired_look t e
theorem me_xg {X : Cx} {C : Ct} {x f : Str} {p pos : Pos} (ns : List Str) (i : Nat) (T : XclF C.K ns f) (hN : X.N[i]? = some x := by rfl) (hv : Vis X.env.scope x := by first | exact Or.inl rfl | exact Or.inr (Or.inl rfl) | exact Or.inr (Or.inr rfl)) (hd : (x == ("__debug__" : Str)) = false := by decide) (hcd : (x == ("__classdict__" : Str)) = false := by decide)
    (hK : X.K = C.K := by rfl) (hb : attributeBase (.Name x p) f X.env (eval (.Name x p) X.env) = eval (.Name x p) X.env := by rfl) : ME X C (.Attribute (.Name x p) f pos) (tXg C.K f (tVar i)) (mXf ns f i) := by
  refine ⟨by have q := pe_xg (pos := pos) (f := f) (pe_var (pos := p) hN hv hd hcd) hb; rw [hK] at q; exact q, ?_, hK⟩
  intro Hf H w σ ε Q E P
  unfold mXf at P
  split at P
  · rename_i y e
    split at P
    · rename_i hc
      split at P
      · rename_i d ed
        obtain ⟨a, cls, dp, h1, h2, Cc, rfl, h3, h4⟩ := E.ownExc e
        rcases h4 with ⟨rfl, h5⟩ | ⟨dd, vs, rfl, h5, h6⟩
        · rw [h5] at ed; cases ed
        · obtain ⟨v, hv1, hv2⟩ := paired_look h6 ed
          obtain ⟨T1, T2⟩ := T _ hc Cc h3
          exact ⟨_, h1, a, Cc, dd, vs, v, rfl, E.sub _ _ h2, T1, T2, E.sub _ _ h5, hv1, P.here E ⟨fun _ z => z, hv2⟩⟩
      · exact P.elim
    · exact P.elim
  · exact P.elim
end M3

namespace M3
open PySem PySem.Spec L2
open PyProof.Rows hiding St
/-! ### isinstance of a kept exception -/
structure ExAt (K : PySem.W.Frag) (H : Hp) (a C : Addr) (d : Option Addr) : Prop where
  at_ : H a = some (exh a (.ref C) d)
  cl : Xcl K C
  dd : d = none ∨ ∃ (p : Addr) (fs : List (Str × V)), d = some p ∧ H p = some (.xd fs)
theorem ExAt.lay {K : PySem.W.Frag} {H : Hp} {a C p : Addr} {d : Option Addr} {o : HO} (h : ExAt K H a C d) (hp : H p = none) : ExAt K (upd H p o) a C d := by
  have ne : ∀ {b : Addr} {u : HO}, H b = some u → b ≠ p := fun q z => by rw [z, hp] at q; cases q
  refine ⟨by rw [upd_ne (ne h.at_)]; exact h.at_, h.cl, h.dd.imp id ?_⟩
  rintro ⟨q, fs, e, z⟩
  exact ⟨q, fs, e, by rw [upd_ne (ne z)]; exact z⟩
section
variable {X : Cx}
theorem ExAt.inst {pins : List (Addr × Obj)} {σ : L2.St} {H : Hp} {s : Shared} {a C : Addr} {d : Option Addr} (I : Inv X pins σ H s) (h : ExAt X.K H a C d) : ∃ oe od, PySem.W.InstAt s.heap a oe C od := by
  obtain ⟨⟨oe, vs, ho, hz, hd⟩, _, _⟩ : ObjOk X.prog X.w H s.heap a (exh a (.ref C) d) := I.hok a _ h.at_
  have nc : PySem.W.notCls oe = true := by unfold PySem.W.notCls; rw [hd] <;> rfl
  rcases h.dd with rfl | ⟨p, fs, rfl, e⟩
  · exact ⟨oe, none, ho, hz.1, nc, by rw [hz.2]; trivial⟩
  · have od : ObjOk X.prog X.w H s.heap p (.xd fs) := I.hok p _ e
    obtain ⟨mA, hns, _⟩ := od
    obtain ⟨od, hod, _⟩ := lookIn_ns hns
    exact ⟨oe, some od, ho, hz.1, nc, by rw [hz.2]; exact hod⟩
theorem Xcl.kit {K : PySem.W.Frag} {a C : Addr} {oe : Obj} {od : Option Obj} (T : Xcl K C) : PySem.W.KitX K (.ref a) (.ref C) (fun h => PySem.W.InstAt h a oe C od) := PySem.W.kitx_exc T.cl T.ga T.gg T.exC T.ca T.gn T.tk T.mo
def rIsX (K : PySem.W.Frag) : List V → Hp → VK → Prop := fun xs H Q => ∃ (a C : Addr) (d : Option Addr) (c : V) (cv : Value) (b : Bool), xs = [.ref a, c] ∧ ExAt K H a C d ∧ (∀ u, RelV c u → u = cv) ∧ PySem.W.kitOne K (.ref C) cv = some b ∧ Q (.bl b) H
theorem call_isX : CallR X (.builtin "isinstance") (rIsX X.K) := by
  intro pins s σ H xs us Q I r h
  obtain ⟨a, C, d, c, cv, b, rfl, T, hcv, e, q⟩ := h
  obtain ⟨u1, u2, rfl, r1, r2⟩ := vals2 r
  have e1 : u1 = Value.ref a := r1
  subst e1
  have e2 := hcv u2 r2
  subst e2
  obtain ⟨oe, od, J⟩ := T.inst I
  exact PySem.W.kia_one T.cl.kit I.kIn J e (fun z => nomatch z) fun tk => ⟨.bl b, H, I.tok tk, rfl, q⟩
def rIsXT (K : PySem.W.Frag) : List V → Hp → VK → Prop := fun xs H Q => ∃ (a C tp : Addr) (d : Option Addr) (cs : List V) (us : List Value) (b : Bool), xs = [.ref a, .ref tp] ∧ ExAt K H a C d ∧ H tp = some (.tup cs) ∧ Paired (fun c u => ∀ z, RelV c z → z = u) cs us ∧ PySem.W.kitAny K (.ref C) us = some b ∧ Q (.bl b) H
theorem cls_all : ∀ {cs : List V} {us zs : List Value}, Paired (fun c u => ∀ z, RelV c z → z = u) cs us → Vals cs zs → zs = us
  | _, _, _, .nil, .nil => rfl
  | _, _, _, .cons h t, .cons r rt => by rw [h _ r, cls_all t rt]
theorem call_isXT : CallR X (.builtin "isinstance") (rIsXT X.K) := by
  intro pins s σ H xs us Q I r h
  obtain ⟨a, C, tp, d, cs, ws, b, rfl, T, hT, k, e, q⟩ := h
  obtain ⟨u1, u2, rfl, r1, r2⟩ := vals2 r
  have e1 : u1 = Value.ref a := r1
  have e2 : u2 = Value.ref tp := r2
  subst e1 e2
  obtain ⟨oe, od, J⟩ := T.inst I
  obtain ⟨_, its, rv, o, h1, h2, n, h3⟩ := (show ObjOk X.prog X.w H s.heap tp (.tup cs) from I.hok tp _ hT)
  have e3 := cls_all k rv
  subst e3
  obtain ⟨oc, od', dt, sl⟩ := o
  simp only at h2 h3
  subst h2 h3
  exact PySem.W.kia_tup T.cl.kit I.kIn J h1 e (fun z => nomatch z) fun tk => ⟨.bl b, H, I.tok tk, rfl, q⟩
end
/-- of the classes all those of yes are classes under cv -/
def KitT (K : PySem.W.Frag) (yes all : List Str) (cv : Value) : Prop := ∀ n ∈ all, ∀ C : Addr, PySem.W.nsIn K mainGlobals n = some (some (.ref C)) → Xcl K C ∧ PySem.W.kitOne K (.ref C) cv = some (decide (n ∈ yes))
def KitTs (K : PySem.W.Frag) (yes all : List Str) (cvs : List Value) : Prop := ∀ n ∈ all, ∀ C : Addr, PySem.W.nsIn K mainGlobals n = some (some (.ref C)) → Xcl K C ∧ PySem.W.kitAny K (.ref C) cvs = some (decide (n ∈ yes))
def mIsX (yes all : List Str) (i : Nat) : M RV := fun ε => match ε[i]? with
  | some (some (.own (.exc x))) => if x.cls ∈ all then .ok (.fro (.bool (decide (x.cls ∈ yes)))) ε else .bad
  | _ => .bad
section
variable {X : Cx} {C : Ct}
/-- an expression that names a class -/
structure ClsE (X : Cx) (e : Expr) (v : V) (cv : Value) : Prop where
  pe : PE X e (tC v)
  r : ∀ z, RelV v z → z = cv
theorem cls_own {x : Str} {T : Addr} {p : Pos} (hm : X.mg x = some (.ref T)) (hg : Gl X x := by rfl) (hd : (x == ("__debug__" : Str)) = false := by decide) : ClsE X (.Name x p) (.ref T) (.ref T) := ⟨pe_glob hg hm rfl hd, fun _ z => z⟩
theorem cls_blt {x : Str} {T : String} {p : Pos} (hm : X.mg x = none) (hv : bootBuiltins x = some (.type T)) (hg : Gl X x := by rfl) (hn : x ≠ "__name__" := by decide) (hd : (x == ("__debug__" : Str)) = false := by decide) : ClsE X (.Name x p) (.ty T) (.type T) := ⟨pe_bltn hg hm hv rfl hn hd, fun _ z => z⟩
def tVs : List V → TA
  | [] => tNil
  | v :: vs => tCons (tC v) (tVs vs)
structure ClsEs (X : Cx) (es : List Expr) (vs : List V) (cvs : List Value) : Prop where
  pa : PA X es (tVs vs)
  r : Paired (fun c u => ∀ z, RelV c z → z = u) vs cvs
theorem clss_nil : ClsEs X [] [] [] := ⟨pa_nil, .nil⟩
theorem clss_cons {e : Expr} {es : List Expr} {v : V} {vs : List V} {cv : Value} {cvs : List Value} (h : ClsE X e v cv) (t : ClsEs X es vs cvs) (hs : starEach (e :: es) X.env = (false, eval e X.env) :: starEach es X.env := by rfl) : ClsEs X (e :: es) (v :: vs) (cv :: cvs) := ⟨pa_cons h.pe t.pa hs, .cons h.r t.r⟩
theorem exAt_of {Hf H : Hp} {w : Own} {σ : L2.St} {ε : En} (E : EnR C Hf H w σ ε) {p : Addr} {cls : Value} {d : Option Addr} {x : Xn} {Cc : Addr} (h2 : Hf p = some (exh p cls d)) (h3 : XnR C.K Hf cls d x) (hc : PySem.W.nsIn C.K mainGlobals x.cls = some (some (.ref Cc))) (T : Xcl C.K Cc) : ExAt C.K H p Cc d := by
  obtain ⟨C2, rfl, h4, h5⟩ := h3
  rw [h4] at hc
  injection hc with hc
  injection hc with hc
  injection hc with hc
  subst hc
  refine ⟨E.sub _ _ h2, T, h5.imp (fun z => z.1) ?_⟩
  rintro ⟨dd, vs, e, z, _⟩
  exact ⟨dd, vs, e, E.sub _ _ z⟩
theorem me_isX {x : Str} {e2 : Expr} {v : V} {cv : Value} {p px pos : Pos} (yes all : List Str) (i : Nat) (hmI : X.mg "isinstance" = none) (hc : ClsE X e2 v cv) (T : KitT C.K yes all cv) (hN : X.N[i]? = some x := by rfl) (hv : Vis X.env.scope x := by first | exact Or.inl rfl | exact Or.inr (Or.inl rfl) | exact Or.inr (Or.inr rfl)) (hd : (x == ("__debug__" : Str)) = false := by decide) (hcd : (x == ("__classdict__" : Str)) = false := by decide)
    (hK : X.K = C.K := by rfl) (hg : Gl X "isinstance" := by rfl) (he : starEach [.Name x px, e2] X.env = (false, eval (.Name x px) X.env) :: starEach [e2] X.env := by rfl) (he2 : starEach [e2] X.env = (false, eval e2 X.env) :: starEach [] X.env := by rfl) (hpl : (backTo pos (starEach [e2] X.env)).any (·.1) = false := by rfl) :
    ME X C (.Call (.Name "isinstance" p) [.Name x px, e2] [] pos) (fun σ H Q => (tCons (tVar i) (tCons (tC v) tNil)) σ H fun vs H1 => rIsX C.K vs H1 Q) (mIsX yes all i) := by
  refine ⟨by
    have q := pe_callB (p := p) (pos := pos) call_isX hg hmI boot_isinstance (pa_cons (pe_var hN hv hd hcd) (pa_cons hc.pe pa_nil he2) he) (by decide) (by decide) he hpl
    rw [hK] at q
    exact q, ?_, hK⟩
  intro Hf H w σ ε Q E P
  unfold mIsX at P
  split at P
  · rename_i y e
    split at P
    · rename_i hy
      obtain ⟨a, cls, d, h1, h2, h3⟩ := E.ownExc e
      obtain ⟨Cc, _, h5, _⟩ := id h3
      obtain ⟨T1, T2⟩ := T _ hy Cc h5
      exact ⟨_, h1, a, Cc, d, v, cv, _, rfl, exAt_of E h2 h3 h5 T1, hc.r, T2, P.here E ⟨fun _ z => z, .bl _⟩⟩
    · exact P.elim
  · exact P.elim
theorem me_isXT {x : Str} {es : List Expr} {vs : List V} {cvs : List Value} {kk : Nat} {p px pt pos : Pos} (yes all : List Str) (i : Nat) (hmI : X.mg "isinstance" = none) (hc : ClsEs X es vs cvs) (T : KitTs C.K yes all cvs) (hz : vs.length ≤ 100 := by decide) (hN : X.N[i]? = some x := by rfl) (hv : Vis X.env.scope x := by first | exact Or.inl rfl | exact Or.inr (Or.inl rfl) | exact Or.inr (Or.inr rfl)) (hd : (x == ("__debug__" : Str)) = false := by decide) (hcd : (x == ("__classdict__" : Str)) = false := by decide)
    (hK : X.K = C.K := by rfl) (hg : Gl X "isinstance" := by rfl) (he : starEach [.Name x px, .Tuple es kk pt] X.env = (false, eval (.Name x px) X.env) :: starEach [.Tuple es kk pt] X.env := by rfl) (he2 : starEach [Expr.Tuple es kk pt] X.env = (false, eval (.Tuple es kk pt) X.env) :: starEach [] X.env := by rfl) (hpl : (backTo pos (starEach [.Tuple es kk pt] X.env)).any (·.1) = false := by rfl) :
    ME X C (.Call (.Name "isinstance" p) [.Name x px, .Tuple es kk pt] [] pos) (fun σ H Q => (tCons (tVar i) (tCons (tTup (tVs vs)) tNil)) σ H fun xs H1 => rIsXT C.K xs H1 Q) (mIsX yes all i) := by
  refine ⟨by
    have q := pe_callB (p := p) (pos := pos) call_isXT hg hmI boot_isinstance (pa_cons (pe_var hN hv hd hcd) (pa_cons (pe_tup (x1 := kk) (pos := pt) hc.pa) pa_nil he2) he) (by decide) (by decide) he hpl
    rw [hK] at q
    exact q, ?_, hK⟩
  intro Hf H w σ ε Q E P
  unfold mIsX at P
  split at P
  · rename_i y e
    split at P
    · rename_i hy
      obtain ⟨a, cls, d, h1, h2, h3⟩ := E.ownExc e
      obtain ⟨Cc, _, h5, _⟩ := id h3
      obtain ⟨T1, T2⟩ := T _ hy Cc h5
      have go : ∀ (vs : List V) (K : List V → Hp → Prop), K vs H → tVs vs σ H K := by
        intro vs
        induction vs with
        | nil => exact fun K k => k
        | cons v vs ih => exact fun K k => ih (fun xs H' => K (v :: xs) H') k
      refine ⟨_, h1, go vs _ ⟨by rw [sizeLine_eq]; omega, fun q hq => ?_⟩⟩
      refine ⟨a, Cc, q, d, vs, cvs, _, rfl, (exAt_of E h2 h3 h5 T1).lay hq, upd_same, hc.r, T2, ?_⟩
      exact P Hf _ w (fun _ => False) (.bl _) (E.layNew hq) ((Stp.layNew hq).out fun x z => z.elim .inl False.elim) ⟨fun _ z => z, .bl _⟩
    · exact P.elim
  · exact P.elim
end
end M3

namespace M3
open PySem PySem.Spec L2
open PyProof.Rows hiding St
/-! ### defs that exceptions may leave -/
theorem tk_cx {P : Program} {w : World} {K : PySem.W.Frag} {mg : Str → Option Value} {base : Heap} {N : List Str} {x : Str} {sc : Scope} {f : Addr} {cdv : Value} {A : Around} {outer : List Env} {s : Shared} {H : Hp} {E : XK} :
    Takes (cxOf (L2.CX P w) P w K mg base N x sc f cdv A outer s H E) (fun c d _ H' => E c d H') := takes_of rfl rfl rfl rfl
theorem passN {P : Program} {w : World} {X : Cx} : PassW (L2.CX P w) X noW := fun σ pins H s e s' I c => by
  obtain ⟨_, _, _, _, _, _, _, _, _, _, _, _, z⟩ := c
  exact z.elim
theorem passX {X : Cx} {W : WX} (tk : Takes X W) : PassW (L2.CX X.prog X.w) X W := fun σ => passAt tk σ
/-- the head, where own exceptions fly -/
theorem walk_ofKX {l : PySem.W.OpenLaw} {n k : Nat} {q : Program} {loose : List Str} {XP : (Str → Option Value) → Heap → Prop} {YP : World → Heap → Prop} {d : DefRec} {K : Params → PySem.W.Frag} {sp : PySem.W.Frag → Sp} {x : Str}
    (hn : l.most = some n) (hn2 : n ≤ sizeLine) (hdf : d.params.defaults = []) (hr : Room k callerA) (hY : ∀ (w : World) (h : Heap), YP w h → (K w.params).In h)
    (F : ∀ (w : World) (mg : Str → Option Value) (fa : Addr) (h : Heap), (K w.params).In h → h.Ns mainGlobals mg → mg d.name = some (.ref fa) →
      ∃ fd : FuncData, (∀ (s : Shared) (u : Value), BindsTo s fd ⟨[u], []⟩ [(x, u)]) ∧ ∀ base : Heap, (K w.params).In base → base.Ns mainGlobals mg → FnG l.prog w (K w.params) mg base (L2.CX l.prog w) k fa fd [x] (sp (K w.params)))
    (hsp : ∀ (K : PySem.W.Frag) (H : Hp) (a : Addr) (ns : List Int), ns.length ≤ n → L2.Only H → SqL K H a (ns.map V.int) → sp K [.ref a] H (fun v _ => v = .bl true) fun _ _ _ => False) :
    PySem.W.WalkO q loose XP YP l.row.toRowW d [] (fun f vs => PySem.call f vs) :=
  walk_ofG (K := K) (CX := fun w => L2.CX l.prog w) (sp := fun w => sp (K w.params)) hn hn2 hdf hr hY F (fun w => hsp (K w.params)) fun w H s e s' c => by
    obtain ⟨_, _, _, _, _, _, _, _, _, _, _, _, z⟩ := c
    exact z
/-! ### classes -/
abbrev tlVE : List Value := [.type "ValueError", .type "Exception", .type "BaseException", .type "object"]
abbrev tlLE : List Value := [.type "LookupError", .type "Exception", .type "BaseException", .type "object"]
theorem pass_LE (self : Value) : refuseLoop self "__setattr__" tlLE = pure () := by kernel_rfl
section
variable {K : PySem.W.Frag} {C T : Addr}
theorem oexG_LE (h : ClsO K C tlLE "LookupError.__new__") (sa : PySem.W.findIn K (.ref C) "__setattr__" = some (some (.builtin "object.__setattr__"))) (exC : PySem.W.subIn K (.ref C) (.type "BaseException") = some true) (tyC : PySem.W.typeIn K (.ref C) = some (.type "type")) (kC : PySem.W.keepIn K (.ref C) = true) : OexG K C "LookupError.__init__" :=
  ⟨⟨tlLE, tlLE, "LookupError", "LookupError.__new__", h, F.excBase_LookupError, fun _ => rfl, pass_LE, by decide +kernel⟩, sa, exC, tyC, kC⟩
theorem oexG_VE1 (h : ClsO K C (.ref T :: tlVE) "ValueError.__new__") (sa : PySem.W.findIn K (.ref C) "__setattr__" = some (some (.builtin "object.__setattr__"))) (exC : PySem.W.subIn K (.ref C) (.type "BaseException") = some true) (tyC : PySem.W.typeIn K (.ref C) = some (.type "type")) (kC : PySem.W.keepIn K (.ref C) = true) : OexG K C "ValueError.__init__" :=
  ⟨⟨.ref T :: tlVE, tlVE, "ValueError", "ValueError.__new__", h, F.excBase_ValueError, fun X => by rw [List.contains_cons]; rfl, fun self => by rw [refuseLoop_ref]; exact F.store_ValueError.passes self, by rw [List.contains_cons, show tlVE.contains (.type "object") = true by decide +kernel, Bool.or_true]⟩, sa, exC, tyC, kC⟩
end
theorem ty_LE : typeOf (.type "LookupError") = pure (.type "type") := by kernel_rfl
theorem boot_LE : bootBuiltins "LookupError" = some (.type "LookupError") := by decide +kernel
theorem boot_VE : bootBuiltins "ValueError" = some (.type "ValueError") := by decide +kernel
theorem ini_LE {K : PySem.W.Frag} : PySem.W.findCls K (.type "LookupError") (.type "type") "__init__" = some (.val (.builtin "LookupError.__init__")) := by kernel_rfl
theorem base_LE {X : Cx} (hm : X.mg "LookupError" = none) (hg : Gl X "LookupError" := by rfl) : BaseI X "LookupError" "LookupError.__init__" := base_blt hg hm boot_LE ini_LE ty_LE
theorem at_one {K : PySem.W.Frag} {n : Str} {C : Addr} {P : Addr → Prop} (h : PySem.W.nsIn K mainGlobals n = some (some (.ref C))) (e : P C) : ∀ C' : Addr, PySem.W.nsIn K mainGlobals n = some (some (.ref C')) → P C' := fun C' h' => by
  rw [h] at h'
  injection h' with h'
  injection h' with h'
  injection h' with h'
  rw [← h']; exact e
end M3

namespace M3
open PySem PySem.Spec L2
open PyProof.Rows hiding St
/-! ### f(..) that looks alone and answers a truth: what the caller owns is lent -/
def mCallV (n : Nat) (F : M RV) (ms : M (List RV)) : M RV := fun ε => (ms ε).bind fun rs ε1 => match viewAll ε1 rs with
  | some ds => if ds.length = n then (match F (ds.map fun d => some (.fro d)) with
    | .ok (.fro (.bool b)) _ => .ok (.fro (.bool b)) ε1
    | _ => .bad) else .bad
  | none => .bad
theorem VwAll.dq {C : Ct} {Hf H : Hp} (s : Same Hf H) : ∀ {vs : List V} {ds : List D}, VwAll C Hf H vs ds → DqAll C.K H vs ds
  | _, _, .nil => .nil
  | _, _, .cons a b => .cons (a.dq s) (VwAll.dq s b)
theorem dqAll_at {K : PySem.W.Frag} {H : Hp} : ∀ {vs : List V} {ds : List D}, DqAll K H vs ds → ∀ i : Nat, SlotR K H H (fun _ => False) (vs.map some)[i]? (ds.map fun d => some (SV.fro d))[i]?
  | _, _, .nil, i => fun _ z => z
  | _, _, .cons a b, 0 => ⟨fun _ z => z, _, rfl, a⟩
  | _, _, .cons a b, i + 1 => dqAll_at b i
theorem dqAll_len {K : PySem.W.Frag} {H : Hp} : ∀ {vs : List V} {ds : List D}, DqAll K H vs ds → vs.length = ds.length
  | _, _, .nil => rfl
  | _, _, .cons a b => by rw [List.length_cons, List.length_cons, dqAll_len b]
section
variable {C : Ct} {tr : TA} {ms : M (List RV)} {n : Nat} {F : M RV}
theorem snd_callV {E : L2.St → XK} (h : Snd C relOs tr ms) : Snd C relRV (fun σ H Q => tr σ H fun vs H1 => spM C.K n F vs H1 Q (E σ)) (mCallV n F ms) :=
  Snd.bind h fun Hf H w σ ε S vs rs Q En0 rb P => by
    split at P
    · rename_i ds ev
      split at P
      · rename_i hn
        split at P
        · rename_i b εo eF
          have dq := VwAll.dq En0.sub (opRs.view En0 rb.2 ev)
          have Ec : EnR ⟨C.K, [], [], noW⟩ H H (fun _ _ => False) (vs.map some) (ds.map fun d => some (SV.fro d)) :=
            ⟨Same.refl _, dqAll_at dq, fun _ _ _ z => z.elim, fun _ _ z => z.elim, by rw [List.length_map, List.length_map, dqAll_len dq], fun i v h1 _ => by cases h1⟩
          refine ⟨(dqAll_len dq).trans hn, H, _, _, Ec, ?_⟩
          rw [eF]
          intro Hf' H' wc S' v Ec' st' rv
          have kp : ∀ a, H a ≠ none → H' a = H a := fun a ha => (st'.rest a ha fun ⟨_, z⟩ => z).1
          have sub : Same Hf H' := fun a o e => by
            have q := En0.sub a o e
            rw [kp a (by rw [q]; simp), q]
          have E2 : EnR C Hf H' w σ ε := ⟨sub, fun i => (En0.slot i).keep (Same.refl _) fun a hw => kp a (En0.there hw), En0.sep, En0.fre, En0.len, En0.fix⟩
          have ev2 : v = .bl b := by
            have q := rv.2
            cases q
            rfl
          subst ev2
          exact P Hf H' w (fun _ => False) (.bl b) E2 ⟨Same.refl _, fun a ha na => ⟨kp a ha, rfl, fun z => z.elim na id⟩⟩ ⟨fun _ z => z, .bl b⟩
        · exact P.elim
      · exact P.elim
    · exact P.elim
end
theorem me_callV {X : Cx} {C : Ct} {e : Expr} {es : List Expr} {tr : TA} {ms : M (List RV)} {pos : Pos} {CX : CXT} {k : Nat} {x : Str} {n : Nat} {F : M RV} {p : Pos} (K : Cal X.prog X.w X.K X.mg X.base CX k x n [] F) (hr : Room k X.A) (hgd : X.A.guards = some []) (hx : PassW CX X C.W) (ha : MAs X C (e :: es) tr ms) (hg : Gl X x := by rfl)
    (hdb : (x == ("__debug__" : Str)) = false := by decide) (he : starEach (e :: es) X.env = (false, eval e X.env) :: starEach es X.env := by rfl) (hpl : (backTo pos (starEach es X.env)).any (·.1) = false := by rfl) :
    ME X C (.Call (.Name x p) (e :: es) [] pos) (tCallG (spM C.K n F) [] (WE C.W) tr) (mCallV n F ms) := by
  obtain ⟨f, fd, ps, ds, h1, h2, h3, h4, h5⟩ := K.ex
  refine ⟨?_, ?_, ha.hK⟩
  · have q := pe_callG (pos := pos) (p := p) h5 hr hgd hg h1 h2 h4 h3 hx ha.pa hdb he hpl
    rw [ha.hK] at q
    exact q
  · have q := snd_callV (n := n) (F := F) (C := C) (E := WE C.W) ha.sn
    have e : (fun (σ : L2.St) (H : Hp) (Q : VK) => tr σ H fun vs H1 => spM C.K n F vs H1 Q (WE C.W σ)) = tCallG (spM C.K n F) [] (WE C.W) tr := by
      funext σ H Q; unfold tCallG; simp only [List.append_nil]
    rw [e] at q
    exact q
@[simp] theorem x_callV {n : Nat} {F : M RV} {ms : M (List RV)} {ε : En} : mCallV n F ms ε = (ms ε).bind fun rs ε1 => match viewAll ε1 rs with
  | some ds => if ds.length = n then (match F (ds.map fun d => some (.fro d)) with
    | .ok (.fro (.bool b)) _ => .ok (.fro (.bool b)) ε1
    | _ => .bad) else .bad
  | none => .bad := rfl
/-! ### a text so many times -/
def MulT (x : Str) (n : Int) : Prop := 0 < n ∧ n ≤ 1000 ∧ x.length ≤ 1000
instance (x : Str) (n : Int) : Decidable (MulT x n) := inferInstanceAs (Decidable (_ ∧ _ ∧ _))
end M3

namespace M3
open PySem PySem.Spec L2
open PyProof.Rows hiding St
/-! ### methods of lists that answer a value -/
def mBML (g : D → List D → Option Out) (m : M RV) (ms : M (List RV)) : M RV := fun ε => (m ε).bind fun r ε1 => match view ε1 r with
  | some (.list _) => (ms ε1).bind fun rs ε2 => (match view ε2 r, viewAll ε2 rs with
    | some (.list ds), some es => outR (g (.list ds) es) ε2
    | _, _ => .bad)
  | _ => .bad
section
variable {C : Ct} {to : TE} {m : M RV} {tr : TA} {ms : M (List RV)}
theorem snd_bml {r : V → List V → Hp → VK → Prop} {g : D → List D → Option Out} (hr : MtS C r g) (h : Snd C relO to m) (hs : Snd C relOs tr ms) : Snd C relRV (tBM C.K "list" r to tr) (mBML g m ms) := by
  intro Hf H w σ ε Q E P
  refine h Hf H w σ ε _ E ?_
  unfold mBML at P
  cases e : m ε with
  | err x ε1 => rw [e] at P; exact P
  | bad => rw [e] at P; exact P
  | ok r1 ε1 =>
    rw [e] at P
    intro Hf1 H1 w1 S b E1 st rb
    have st0 := st.out (o'' := O w1) fun x z => .inl z
    have P1 := P.step st0
    simp only [R.bind] at P1
    split at P1
    · rename_i ds0 v0
      obtain ⟨p, vs, rfl, q1, _⟩ := rb.2.view E1 v0
      refine ⟨.inl ⟨rfl, vs, .of q1⟩, hs Hf1 H1 w1 σ ε1 _ E1 ?_⟩
      cases e2 : ms ε1 with
      | err x ε2 => rw [e2] at P1; exact P1
      | bad => rw [e2] at P1; exact P1
      | ok rs ε2 =>
        rw [e2] at P1
        intro Hf2 H2 w2 S2 b2 E2 st2 rb2
        have P2 := P1.step (st2.out (o'' := O w2) fun x z => .inl z)
        simp only at P2
        split at P2
        · rename_i ds es v1 v2
          exact hr Hf2 H2 _ b2 (.list ds) es Q E2.sub ((opR.mono st2.mono rb.2).view E2 v1) (rb2.2.view E2 v2) (OutP.of E2 P2)
        · exact P2.elim
    · exact P1.elim
end
def ixK (k : Key) : List Key → Option Nat
  | [] => none
  | j :: ks => if j = k then some 0 else (ixK k ks).map (· + 1)
def gIndex : D → List D → Option Out
  | .list ds, [d] => (match keysD ds, keysD [d] with
    | some ks, some [k] => (ixK k ks).map fun j => .val (.int (j : Int))
    | _, _ => none)
  | _, _ => none
theorem flat_k (k : Key) : flatV (kV k) = true := by cases k <;> rfl
theorem eqV_k (a b : Key) : eqV (kV a) (kV b) = decide (a = b) := by
  cases a <;> cases b <;> simp [kV, eqV] <;> rfl
theorem ixK_some {k : Key} : ∀ {ks : List Key} {j : Nat}, ixK k ks = some j → ks[j]? = some k ∧ ∀ (m : Nat) (z : Key), m < j → ks[m]? = some z → z ≠ k
  | [], j, e => by cases e
  | i :: ks, j, e => by
    unfold ixK at e
    by_cases q : i = k
    · rw [if_pos q] at e
      cases e
      exact ⟨by rw [q]; rfl, fun m z h => absurd h (Nat.not_lt_zero m)⟩
    · rw [if_neg q] at e
      cases r : ixK k ks with
      | none => rw [r] at e; cases e
      | some l =>
        rw [r] at e
        cases e
        obtain ⟨h1, h2⟩ := ixK_some r
        exact ⟨h1, fun m z hm hz => by
          cases m with
          | zero => cases hz; exact q
          | succ m => exact h2 m z (Nat.lt_of_succ_lt_succ hm) hz⟩
theorem mts_index {C : Ct} : MtS C (rIndex C.K) gIndex := by
  intro Hf H x xs d ds Q sm h1 h2 P
  unfold gIndex at P
  split at P
  · rename_i es d1
    split at P
    · rename_i ks k e1 e2
      obtain ⟨p, vs, rfl, q1, q2⟩ := h1
      have ev := keysD_vs q2 e1
      subst ev
      have dq := VwAll.dq sm h2
      have ex := keysD_vs dq e2
      subst ex
      cases r : ixK k ks with
      | none => rw [r] at P; exact P.elim
      | some j =>
        rw [r] at P
        obtain ⟨g1, g2⟩ := ixK_some r
        refine ⟨p, ks.map kV, kV k, j, kV k, rfl, rfl, .of q1, flat_k k, ?_, by rw [List.getElem?_map, g1]; rfl, by rw [eqV_k]; exact decide_eq_true rfl, fun m z hm hz => ?_, P _ (.int _)⟩
        · rw [List.all_map]
          exact List.all_eq_true.mpr fun k _ => flat_k k
        · rw [List.getElem?_map] at hz
          cases e : ks[m]? with
          | none => rw [e] at hz; cases hz
          | some z' =>
            rw [e] at hz
            cases hz
            rw [eqV_k]
            exact decide_eq_false (g2 m z' hm e)
    · exact P.elim
  · exact P.elim
theorem me_index {X : Cx} {C : Ct} {o e : Expr} {to te : TE} {m m2 : M RV} {apos cpos : Pos} (ho : MO X C o to m) (ha : MAs X C [e] (tCons te tNil) (msCons m2 msNil))
    (hbase : attributeBase o "index" X.env (eval o X.env) = eval o X.env := by rfl)
    (hfew : ((backTo cpos (starEach (e :: []) X.env)).all (fun x => !x.1) && (backToKw cpos (keywordEach [] X.env)).all (fun x => x.1.isSome)
      && decide ((e :: ([] : List Expr)).length + ([] : List Keyword).length + (if ([] : List Keyword).isEmpty then 0 else 1) < 30)) = true := by rfl)
    (hline : (apos.endLine == cpos.line) = true := by rfl) (hst : starEach (e :: []) X.env = (false, eval e X.env) :: starEach [] X.env := by rfl) (hplain : (backTo cpos (starEach [] X.env)).any (·.1) = false := by rfl) :
    ME X C (.Call (.Attribute o "index" apos) [e] [] cpos) (tBM C.K "list" (rIndex C.K) to (tCons te tNil)) (mBML gIndex m (msCons m2 msNil)) := ⟨by
      have q := pe_bm (apos := apos) (cpos := cpos) (r := rIndex X.K) PySem.F.plainAttrs_list PySem.F.slot_list_index PySem.F.type_list_index mt_index ho.pe ha.pa hbase hfew hline hst hplain
      rw [ho.hK] at q
      exact q, snd_bml mts_index ho.sn ha.sn, ho.hK⟩
@[simp] theorem x_bml (g : D → List D → Option Out) (m : M RV) (ms : M (List RV)) (ε : En) : mBML g m ms ε = (m ε).bind fun r ε1 => match view ε1 r with
  | some (.list _) => (ms ε1).bind fun rs ε2 => (match view ε2 r, viewAll ε2 rs with
    | some (.list ds), some es => outR (g (.list ds) es) ε2
    | _, _ => .bad)
  | _ => .bad := rfl
/-! ### a text split -/
def gSplit : D → List D → Option Out
  | .str a, [.str b] => if (b.length == 0) = false ∧ a.length + 2 ≤ sizeLine then some (.newl ((Txt.split a b).map .str)) else none
  | _, _ => none
end M3

namespace M3
open PySem PySem.Spec L2
open PyProof.Rows hiding St
/-! ### f(.., k = v): keyword-only parameters, all told -/
/-- how it binds: n1 by place, the names ks behind -/
def KB (K : PySem.W.Frag) (fd : FuncData) (ps ks : List Str) (n1 : Nat) : Prop := ∀ (s : Shared) (us ws : List Value), K.In s.heap → us.length = n1 → ws.length = ks.length → BindsTo s fd ⟨us, ks.zip ws⟩ (ps.zip (us ++ ws))
structure CalK (P : Program) (w : World) (K : PySem.W.Frag) (mg : Str → Option Value) (base : Heap) (CX : CXT) (k : Nat) (x : Str) (n1 : Nat) (ks : List Str) (F : M RV) : Prop where
  ex : ∃ (f : Addr) (fd : FuncData) (ps : List Str), mg x = some (.ref f) ∧ PySem.W.keepIn K (.ref f) = true ∧ KB K fd ps ks n1 ∧ FnG P w K mg base CX k f fd ps (spM K (n1 + ks.length) F)
theorem CalK.mono {P : Program} {w : World} {K : PySem.W.Frag} {mg : Str → Option Value} {base : Heap} {CX : CXT} {j k : Nat} {x : Str} {n1 : Nat} {ks : List Str} {F : M RV} (c : CalK P w K mg base CX j x n1 ks F) (h : j ≤ k) : CalK P w K mg base CX k x n1 ks F := by
  obtain ⟨f, fd, ps, h1, h2, h3, h4⟩ := c.ex
  exact ⟨f, fd, ps, h1, h2, h3, h4.mono h⟩
section
variable {X : Cx} {CX : CXT} {k : Nat} {f : Addr} {fd : FuncData} {ps ks : List Str} {sp : Sp} {E : L2.St → XK} {x : Str} {p pos : Pos} {e : Expr} {es : List Expr} {kws : List Keyword} {t tk : TA} {n1 : Nat}
end
def msCat (n1 n2 : Nat) (ms ms2 : M (List RV)) : M (List RV) := fun ε => (ms ε).bind fun rs ε1 => (ms2 ε1).bind fun rs2 ε2 => if rs.length = n1 ∧ rs2.length = n2 then .ok (rs ++ rs2) ε2 else .bad
theorem opRs.len {C : Ct} {Hf : Hp} {σ : L2.St} : ∀ {vs : List V} {rs : List RV}, opRs C Hf σ vs rs → vs.length = rs.length
  | _, _, .nil => rfl
  | _, _, .cons a b => by rw [List.length_cons, List.length_cons, opRs.len b]
@[simp] theorem x_cat {n1 n2 : Nat} {ms ms2 : M (List RV)} {ε : En} : msCat n1 n2 ms ms2 ε = (ms ε).bind fun rs ε1 => (ms2 ε1).bind fun rs2 ε2 => if rs.length = n1 ∧ rs2.length = n2 then .ok (rs ++ rs2) ε2 else .bad := rfl
end M3

namespace M3
open PySem PySem.Spec L2
open PyProof.Rows hiding St
/-! ### set(list of whole numbers), in order: sorted(set(xs)) -/
section
variable {prog : Program} {w : World} {A : Around} {R : Result → Shared → Prop} {I : Addr} {fp wr : List Addr} {G : Array GenState → Array GenState → Prop} {n : Nat} {P : Nat → Value → Prop} {St : Nat → Shared → Prop}
end
section
open PySem.F
variable {prog : Program} {w : World} {A : Around} {E : Value → Shared → Prop} {s : Shared}
end
end M3

namespace M3
open PySem PySem.Spec L2
open PyProof.Rows hiding St
/-- the mirror: by putting in order -/
def insI (k : Int) : List Int → List Int
  | [] => [k]
  | j :: l => if k < j then k :: j :: l else if k = j then j :: l else j :: insI k l
def srtI (ns : List Int) : List Int := ns.foldr insI []
def intsZ : List D → Option (List Int)
  | [] => some []
  | .int i :: ds => (intsZ ds).map (i :: ·)
  | _ => none
def mSortSet (m : M RV) : M RV := fun ε => (m ε).bind fun r ε1 => match view ε1 r with
  | some (.list ds) => (match intsZ ds with
    | some ns => if ns.length < 64 then .ok (.new (.lst ((srtI ns).map PyData.int))) ε1 else .bad
    | none => .bad)
  | _ => .bad
@[simp] theorem x_sortSet {m : M RV} {ε : En} : mSortSet m ε = (m ε).bind fun r ε1 => match view ε1 r with
  | some (.list ds) => (match intsZ ds with
    | some ns => if ns.length < 64 then .ok (.new (.lst ((srtI ns).map PyData.int))) ε1 else .bad
    | none => .bad)
  | _ => .bad := rfl
end M3

namespace M4
open PySem PySem.Spec L2 M3
open PyProof.Rows hiding St
theorem kb_none_int : kitB "NoneType" "int" = some false := by decide +kernel
theorem kb_bool_int : kitB "bool" "int" = some true := by decide +kernel
theorem kb_int_int : kitB "int" "int" = some true := by decide +kernel
theorem kb_str_int : kitB "str" "int" = some false := by decide +kernel
theorem kb_list_int : kitB "list" "int" = some false := by decide +kernel
theorem kb_tuple_int : kitB "tuple" "int" = some false := by decide +kernel
theorem kb_dict_int : kitB "dict" "int" = some false := by decide +kernel
def is_int : D → Bool
  | .int _ => true
  | .bool _ => true
  | _ => false
theorem isi_int (d : D) : isiD d "int" = some (is_int d) := by
  cases d <;> first | exact kb_none_int | exact kb_bool_int | exact kb_int_int | exact kb_str_int | exact kb_list_int | exact kb_tuple_int | exact kb_dict_int
theorem kb_none_bool : kitB "NoneType" "bool" = some false := by decide +kernel
theorem kb_bool_bool : kitB "bool" "bool" = some true := by decide +kernel
theorem kb_int_bool : kitB "int" "bool" = some false := by decide +kernel
theorem kb_str_bool : kitB "str" "bool" = some false := by decide +kernel
theorem kb_list_bool : kitB "list" "bool" = some false := by decide +kernel
theorem kb_tuple_bool : kitB "tuple" "bool" = some false := by decide +kernel
theorem kb_dict_bool : kitB "dict" "bool" = some false := by decide +kernel
def is_bool : D → Bool
  | .bool _ => true
  | _ => false
theorem isi_bool (d : D) : isiD d "bool" = some (is_bool d) := by
  cases d <;> first | exact kb_none_bool | exact kb_bool_bool | exact kb_int_bool | exact kb_str_bool | exact kb_list_bool | exact kb_tuple_bool | exact kb_dict_bool
theorem kb_none_str : kitB "NoneType" "str" = some false := by decide +kernel
theorem kb_bool_str : kitB "bool" "str" = some false := by decide +kernel
theorem kb_int_str : kitB "int" "str" = some false := by decide +kernel
theorem kb_str_str : kitB "str" "str" = some true := by decide +kernel
theorem kb_list_str : kitB "list" "str" = some false := by decide +kernel
theorem kb_tuple_str : kitB "tuple" "str" = some false := by decide +kernel
theorem kb_dict_str : kitB "dict" "str" = some false := by decide +kernel
def is_str : D → Bool
  | .str _ => true
  | _ => false
theorem isi_str (d : D) : isiD d "str" = some (is_str d) := by
  cases d <;> first | exact kb_none_str | exact kb_bool_str | exact kb_int_str | exact kb_str_str | exact kb_list_str | exact kb_tuple_str | exact kb_dict_str
theorem kb_none_tuple : kitB "NoneType" "tuple" = some false := by decide +kernel
theorem kb_bool_tuple : kitB "bool" "tuple" = some false := by decide +kernel
theorem kb_int_tuple : kitB "int" "tuple" = some false := by decide +kernel
theorem kb_str_tuple : kitB "str" "tuple" = some false := by decide +kernel
theorem kb_list_tuple : kitB "list" "tuple" = some false := by decide +kernel
theorem kb_tuple_tuple : kitB "tuple" "tuple" = some true := by decide +kernel
theorem kb_dict_tuple : kitB "dict" "tuple" = some false := by decide +kernel
def is_tuple : D → Bool
  | .tuple _ => true
  | _ => false
theorem isi_tuple (d : D) : isiD d "tuple" = some (is_tuple d) := by
  cases d <;> first | exact kb_none_tuple | exact kb_bool_tuple | exact kb_int_tuple | exact kb_str_tuple | exact kb_list_tuple | exact kb_tuple_tuple | exact kb_dict_tuple
theorem kb_none_list : kitB "NoneType" "list" = some false := by decide +kernel
theorem kb_bool_list : kitB "bool" "list" = some false := by decide +kernel
theorem kb_int_list : kitB "int" "list" = some false := by decide +kernel
theorem kb_str_list : kitB "str" "list" = some false := by decide +kernel
theorem kb_list_list : kitB "list" "list" = some true := by decide +kernel
theorem kb_tuple_list : kitB "tuple" "list" = some false := by decide +kernel
theorem kb_dict_list : kitB "dict" "list" = some false := by decide +kernel
def is_list : D → Bool
  | .list _ => true
  | _ => false
theorem isi_list (d : D) : isiD d "list" = some (is_list d) := by
  cases d <;> first | exact kb_none_list | exact kb_bool_list | exact kb_int_list | exact kb_str_list | exact kb_list_list | exact kb_tuple_list | exact kb_dict_list
def pWorth (N : Int) : D → Bool
  | .none => true
  | .int i => decide (-N ≤ i) && decide (i ≤ N)
  | _ => false
abbrev AZ : Str := "abcdefghijklmnopqrstuvwxyz"
def pName : D → Bool
  | .str z => decide (1 ≤ z.length) && (decide (z.length ≤ 8) && z.cps.toList.all fun c => decide (c ∈ AZ.cps.toList))
  | _ => false
theorem sh_int (i : Int) : SeqAt.shaped (.int i) = true := by simp [SeqAt.shaped, PyData.canLay0, PyData.depth]
theorem eq_int (i j : Int) : PyData.eqv (.int i) (.int j) = (i == j) := by simp [PyData.eqv]
theorem gEq_int (i j : Int) : gEq (.int i) (.int j) = some (i == j) := by unfold gEq; rw [if_pos ⟨sh_int i, sh_int j⟩, eq_int]
abbrev BIG : Int := 1000000000
theorem w_all {x : D} {xs : List D} (h : x ∈ xs) : x.weight + 1 ≤ PyData.weightAll xs := by
  induction xs with
  | nil => cases h
  | cons y ys ih =>
    unfold PyData.weightAll
    rcases List.mem_cons.mp h with rfl | h
    · omega
    · have := ih h; omega
def nameOf : D → D
  | .tuple (a :: _) => a
  | _ => .none
/-! ### the law's own look -/
theorem strOk_of {z : Str} (h : ∀ c ∈ z.cps.toList, c < 1114112) : SeqAt.shaped (.str z) = true := by
  unfold SeqAt.shaped
  rw [Bool.and_eq_true]
  refine ⟨?_, decide_eq_true (by unfold PyData.depth; omega)⟩
  show PyData.strOk z = true
  unfold PyData.strOk
  rw [← Array.all_toList, List.all_eq_true]
  exact fun c hc => decide_eq_true (h c hc)
/-- texts of signs below 128 -/
def asc (z : Str) : Bool := z.cps.toList.all fun c => decide (c < 128)
theorem asc_sh {z : Str} (h : asc z = true) : SeqAt.shaped (.str z) = true := strOk_of fun c hc => by
  have := of_decide_eq_true (List.all_eq_true.mp h c hc)
  omega
theorem canAll {xs : List D} : (∀ x ∈ xs, x.canLay0 = true) → PyData.canLayAll0 xs = true := by
  induction xs with
  | nil => intro _; unfold PyData.canLayAll0; rfl
  | cons y ys ih =>
    intro h
    unfold PyData.canLayAll0
    rw [h y List.mem_cons_self, ih fun x hx => h x (List.mem_cons_of_mem _ hx)]
    rfl
theorem depAll {xs : List D} {n : Nat} : (∀ x ∈ xs, x.depth ≤ n) → PyData.depthAll xs ≤ n := by
  induction xs with
  | nil => intro _; unfold PyData.depthAll; omega
  | cons y ys ih =>
    intro h
    unfold PyData.depthAll
    exact Nat.max_le.mpr ⟨h y List.mem_cons_self, ih fun x hx => h x (List.mem_cons_of_mem _ hx)⟩
theorem sh_list {xs : List D} (h1 : ∀ x ∈ xs, SeqAt.shaped x = true) (h2 : ∀ x ∈ xs, x.depth ≤ 63) : SeqAt.shaped (.list xs) = true := by
  unfold SeqAt.shaped
  rw [Bool.and_eq_true, decide_eq_true_eq]
  have e1 : PyData.canLayAll0 xs = true := canAll fun x hx => (Bool.and_eq_true_iff.mp (show SeqAt.shaped x = true from h1 x hx)).1
  have e2 := depAll h2
  refine ⟨?_, ?_⟩
  · unfold PyData.canLay0; exact e1
  · unfold PyData.depth; omega
/-- names that have come -/
def Nms (acc : List D) : Prop := ∀ x ∈ acc, ∃ z, x = .str z ∧ SeqAt.shaped (.str z) = true
theorem Nms.sh {acc : List D} (h : Nms acc) : SeqAt.shaped (.list acc) = true := sh_list (fun x hx => by obtain ⟨z, rfl, q⟩ := h x hx; exact q) fun x hx => by
  obtain ⟨z, rfl, q⟩ := h x hx
  unfold PyData.depth
  omega
theorem sh_nil : SeqAt.shaped (.list []) = true := by decide +kernel
theorem eqv_nil (acc : List D) : PyData.eqv (.list acc) (.list []) = acc.isEmpty := by
  cases acc <;> simp [PyData.eqv, PyData.eqvAll]
theorem gNe_int (i j : Int) : gNe (.int i) (.int j) = some (!(i == j)) := by unfold gNe; rw [if_pos ⟨sh_int i, sh_int j⟩, eq_int]
theorem in_nms {acc : List D} {d : D} (h : Nms acc) (hd : SeqAt.shaped d = true) : gIn d (.list acc) = some (acc.any fun z => PyData.eqv z d) := by
  have q := h.sh
  cases d <;> simp only [gIn] <;> rw [if_pos ⟨hd, q⟩]
/-! ### both looks are one -/
def fresh : List Key → List Key → Bool
  | _, [] => true
  | acc, k :: ks => !memK k acc && fresh (acc ++ [k]) ks
/-- what the law may be told of: small data -/
structure Okd (d : D) : Prop where
  w : d.weight ≤ 300000
  s : SeqAt.shaped d = true
  v : PyData.showable d = true
  h : PyData.hasDict d = false
  l : d.shown.length ≤ sizeLine
theorem gRepr_ok {d : D} (o : Okd d) : gRepr [d] = some (.val (.str d.shown)) := by
  unfold gRepr
  dsimp only
  rw [if_pos ⟨o.v, o.h, SeqAt.depth_of_shaped o.s, o.l⟩]
theorem sh_bool (b : Bool) : SeqAt.shaped (.bool b) = true := by cases b <;> decide +kernel
theorem gEq_bool (a b : Bool) : gEq (.bool a) (.bool b) = some (a == b) := by
  unfold gEq
  rw [if_pos ⟨sh_bool a, sh_bool b⟩]
  simp [PyData.eqv]
theorem gEq_same (z : Str) : gEq (.str z) (.str z) = some true := by
  unfold gEq eqStr
  split
  · simp [PyData.eqv]
  · simp
/-! ### ints worked out -/
def Gi (m : M RV) (ε : En) (P : Int → Prop) : Prop := ∃ i, m ε = .ok (.fro (.int i)) ε ∧ P i
theorem gi_c (i : Int) (ε : En) : Gi (mC (.int i)) ε (· = i) := ⟨i, rfl, rfl⟩
theorem gi_v {j : Nat} {ε : En} {k : Int} (h : ε[j]? = some (some (.fro (.int k)))) : Gi (mVar j) ε (· = k) := ⟨k, by rw [x_var, h], rfl⟩
theorem gi_op {g : D → D → Option Out} {m1 m2 : M RV} {ε : En} {P Q R : Int → Prop} (h1 : Gi m1 ε P) (h2 : Gi m2 ε Q) (h : ∀ a b, P a → Q b → ∃ c, g (.int a) (.int b) = some (.val (.int c)) ∧ R c) : Gi (mOp g (oE m1) (oE m2)) ε R := by
  obtain ⟨a, e1, p⟩ := h1
  obtain ⟨b, e2, q⟩ := h2
  obtain ⟨c, e3, r⟩ := h a b p q
  exact ⟨c, by simp [e1, e2, e3], r⟩
theorem gi_set {m : M RV} {ε : En} {P : Int → Prop} {j : Nat} (hj : j < ε.length) (h : Gi m ε P) : ∃ i, P i ∧ sSet j m ε = .nx (ε.set j (some (.fro (.int i)))) := by
  obtain ⟨i, e, p⟩ := h
  exact ⟨i, p, by simp [e, hj]⟩
theorem gAdd_i (a b : Int) : gAdd (.int a) (.int b) = some (.val (.int (a + b))) := rfl
theorem gSub_i (a b : Int) : M3.gSub (.int a) (.int b) = some (.val (.int (a - b))) := rfl
theorem gMul_i {a b : Int} (h : -18446744073709551616 < b ∧ b < 18446744073709551616) : gMul (.int a) (.int b) = some (.val (.int (a * b))) := by
  show (if CMul a b then some (Out.val (PyData.int (a * b))) else none) = _
  rw [if_pos (.inr (by simpa using h))]
theorem gMod_i {a b : Int} (h : 0 < b) : gMod (.int a) (.int b) = some (.val (.int (a % b))) := by
  show (if 0 < b then some (Out.val (PyData.int (a % b))) else none) = _
  rw [if_pos h]
theorem gDiv_i {a b : Int} (h : 0 < b) (h2 : b.natAbs.log2 < 9000) : gDiv (.int a) (.int b) = some (.val (.int (a / b))) := by
  show (if 0 < b ∧ b.natAbs.log2 < 9000 then some (Out.val (PyData.int (a / b))) else none) = _
  rw [if_pos ⟨h, h2⟩]
theorem lg {b : Int} (h0 : 0 < b) (h : b < 2 ^ 60) : b.natAbs.log2 < 9000 := by
  have h1 : b.natAbs < 2 ^ 60 := by omega
  have : b.natAbs.log2 < 60 := (Nat.log2_lt (by omega)).mpr h1
  omega
theorem gi_add {m1 m2 : M RV} {ε : En} {P Q : Int → Prop} (h1 : Gi m1 ε P) (h2 : Gi m2 ε Q) : Gi (mOp gAdd (oE m1) (oE m2)) ε (fun _ => True) := gi_op h1 h2 fun a b _ _ => ⟨a + b, rfl, trivial⟩
theorem gi_mulc {m1 : M RV} {ε : En} {P : Int → Prop} {c : Int} (h1 : Gi m1 ε P) (h : -18446744073709551616 < c ∧ c < 18446744073709551616) : Gi (mOp gMul (oE m1) (oE (mC (.int c)))) ε (fun _ => True) := gi_op h1 (gi_c c ε) fun a b _ q => by subst q; exact ⟨_, gMul_i h, trivial⟩
theorem gi_modc {m1 : M RV} {ε : En} {P : Int → Prop} {c : Int} (h1 : Gi m1 ε P) (h : 0 < c) : Gi (mOp gMod (oE m1) (oE (mC (.int c)))) ε (fun i => 0 ≤ i ∧ i < c) := gi_op h1 (gi_c c ε) fun a b _ q => by
  subst q
  exact ⟨_, gMod_i h, Int.emod_nonneg a (by omega), Int.emod_lt_of_pos a h⟩
theorem gi_divc {m1 : M RV} {ε : En} {P : Int → Prop} {c : Int} (h1 : Gi m1 ε P) (h : 0 < c) (h2 : c < 2 ^ 60) : Gi (mOp gDiv (oE m1) (oE (mC (.int c)))) ε (fun _ => True) := gi_op h1 (gi_c c ε) fun a b _ q => by
  subst q
  exact ⟨_, gDiv_i h (lg h h2), trivial⟩
/-! ### the state -/
theorem ixN_lt {n : Nat} {k : Int} (h0 : 0 ≤ k) (h : k < n) : ixN n k = some k.toNat := by
  unfold ixN
  rw [if_pos h0, if_pos h]
theorem atI_get {α : Type} {xs : List α} {k : Int} (h0 : 0 ≤ k) (h : k < xs.length) : ∃ x ∈ xs, L2.atI xs k = some x := by
  unfold L2.atI
  rw [ixN_lt h0 h]
  have hk : k.toNat < xs.length := by omega
  exact ⟨xs[k.toNat], List.getElem_mem hk, by simp [hk]⟩
def P_take (T : Sm) : Sm := (sSeq (sSet 2 (mOp gAdd (oE (mStTurn 0)) (oE (mC (.int 1))))) (sSeq (sStTurn 0 (oE (mVar 2))) (sSeq (sSet 3 (mOp gMod (oE (mVar 2)) (oE (mStLen 0)))) (sSeq (sSet 4 (mStCell 0 3)) (sSeq (sIf (mBl (mOp (bo gGe) (oE (mVar 4)) (oE (mOp gPow (oE (mC (.int 10))) (oE (mC (.int 18))))))) (sSeq (sStPut 0 5 3 (oE (mVar 4)) (oE (mVar 1)))
    (sRet (mVar 5))) sNext) T)))))
def S6 : Sm := (sSet 6 (mOp gAdd (oE (mOp gMod (oE (mVar 4)) (oE (mC (.int 2147483629))))) (oE (mOp gMul (oE (mOp gMod (oE (mOp gDiv (oE (mVar 4)) (oE (mC (.int 2147483629))))) (oE (mC (.int 40009))))) (oE (mC (.int 977)))))))
def S7 : Sm := (sSet 7 (mOp gMod (oE (mOp gMul (oE (mOp gAdd (oE (mOp gAdd (oE (mVar 6)) (oE (mOp gMul (oE (mOp gMul (oE (mVar 2)) (oE (mVar 2)))) (oE (mC (.int 6007))))))) (oE (mC (.int 29))))) (oE (mC (.int 48271))))) (oE (mC (.int 2147483647)))))
def S8 : Sm := (sSet 7 (mOp gMod (oE (mOp gMul (oE (mVar 7)) (oE (mVar 7)))) (oE (mC (.int 2147483579)))))
def SR_ : Sm := (sRet (mOp gMod (oE (mOp gDiv (oE (mOp gMod (oE (mOp gMul (oE (mOp gAdd (oE (mVar 7)) (oE (mOp gMul (oE (mVar 2)) (oE (mC (.int 103049))))))) (oE (mC (.int 69621))))) (oE (mC (.int 2147483629))))) (oE (mC (.int 64))))) (oE (mVar 1))))
def T_take : Sm := sSeq S6 (sSeq S7 (sSeq S8 SR_))
theorem t_take (cs : List Int) (t m p c : Int) (hm : 0 < m) (ht : 0 ≤ t) (ht2 : t < 1000000) : ∃ k x y, 0 ≤ k ∧ k < m ∧ T_take [some (.own (.st cs (t + 1))), some (.fro (.int m)), some (.fro (.int (t + 1))), some (.fro (.int p)), some (.fro (.int c)), none, none, none] =
    .rt (.fro (.int k)) [some (.own (.st cs (t + 1))), some (.fro (.int m)), some (.fro (.int (t + 1))), some (.fro (.int p)), some (.fro (.int c)), none, x, y] := by
  obtain ⟨w1, _, e6⟩ := gi_set (j := 6) (ε := [some (.own (.st cs (t + 1))), some (.fro (.int m)), some (.fro (.int (t + 1))), some (.fro (.int p)), some (.fro (.int c)), none, none, none]) (by simp) (gi_add (gi_modc (gi_v (j := 4) rfl) (c := 2147483629) (by omega)) (gi_mulc (gi_modc (gi_divc (gi_v (j := 4) rfl) (c := 2147483629) (by omega) (by omega)) (c := 40009) (by omega)) (c := 977) (by omega)))
  obtain ⟨w2, h2, e7⟩ := gi_set (j := 7) (ε := [some (.own (.st cs (t + 1))), some (.fro (.int m)), some (.fro (.int (t + 1))), some (.fro (.int p)), some (.fro (.int c)), none, some (.fro (.int w1)), none]) (by simp)
    (gi_modc (gi_mulc (gi_add (gi_add (gi_v (j := 6) rfl) (gi_mulc (gi_op (g := gMul) (R := fun _ => True) (gi_v (j := 2) rfl) (gi_v (j := 2) rfl) fun a b h1 h2 => by subst h1; subst h2; exact ⟨_, gMul_i (by omega), trivial⟩) (c := 6007) (by omega))) (gi_c 29 _)) (c := 48271) (by omega)) (c := 2147483647) (by omega))
  obtain ⟨w3, h3, e8⟩ := gi_set (j := 7) (ε := [some (.own (.st cs (t + 1))), some (.fro (.int m)), some (.fro (.int (t + 1))), some (.fro (.int p)), some (.fro (.int c)), none, some (.fro (.int w1)), some (.fro (.int w2))]) (by simp)
    (gi_modc (gi_op (g := gMul) (R := fun _ => True) (gi_v (j := 7) rfl) (gi_v (j := 7) rfl) fun a b h1 h2 => by subst h1; subst h2; exact ⟨_, gMul_i (by omega), trivial⟩) (c := 2147483579) (by omega))
  obtain ⟨k, ek, hk⟩ : Gi (mOp gMod (oE (mOp gDiv (oE (mOp gMod (oE (mOp gMul (oE (mOp gAdd (oE (mVar 7)) (oE (mOp gMul (oE (mVar 2)) (oE (mC (.int 103049))))))) (oE (mC (.int 69621))))) (oE (mC (.int 2147483629))))) (oE (mC (.int 64))))) (oE (mVar 1)))
      [some (.own (.st cs (t + 1))), some (.fro (.int m)), some (.fro (.int (t + 1))), some (.fro (.int p)), some (.fro (.int c)), none, some (.fro (.int w1)), some (.fro (.int w3))] (fun i => 0 ≤ i ∧ i < m) :=
    gi_op (g := gMod) (gi_divc (gi_modc (gi_mulc (gi_add (gi_v (j := 7) rfl) (gi_mulc (gi_v (j := 2) rfl) (c := 103049) (by omega))) (c := 69621) (by omega)) (c := 2147483629) (by omega)) (c := 64) (by omega) (by omega)) (gi_v (j := 1) rfl)
      fun a b _ q => by subst q; exact ⟨_, gMod_i hm, Int.emod_nonneg a (by omega), Int.emod_lt_of_pos a hm⟩
  refine ⟨k, some (.fro (.int w1)), some (.fro (.int w3)), hk.1, hk.2, ?_⟩
  simp only [List.set_cons_succ, List.set_cons_zero] at e6 e7 e8
  have f6 : S6 _ = _ := e6
  have f7 : S7 _ = _ := e7
  have f8 : S8 _ = _ := e8
  have f9 : SR_ [some (.own (.st cs (t + 1))), some (.fro (.int m)), some (.fro (.int (t + 1))), some (.fro (.int p)), some (.fro (.int c)), none, some (.fro (.int w1)), some (.fro (.int w3))] = .rt (.fro (.int k)) [some (.own (.st cs (t + 1))), some (.fro (.int m)), some (.fro (.int (t + 1))), some (.fro (.int p)), some (.fro (.int c)), none, some (.fro (.int w1)), some (.fro (.int w3))] := by
    unfold SR_
    rw [x_ret, ek]
    rfl
  unfold T_take
  rw [x_seq, f6, x_q1, x_seq, f7, x_q1, x_seq, f8, x_q1, f9]
/-! ### short texts of plain signs -/
structure Sh (n : Nat) (z : Str) : Prop where
  a : asc z = true
  l : z.length ≤ n
theorem Sh.mono {n k : Nat} {z : Str} (h : Sh n z) (e : n ≤ k) : Sh k z := ⟨h.a, Nat.le_trans h.l e⟩
theorem asc_iff {z : Str} : asc z = true ↔ ∀ c ∈ z.cps.toList, c < 128 := by
  unfold asc
  rw [List.all_eq_true]
  exact ⟨fun h c hc => of_decide_eq_true (h c hc), fun h c hc => decide_eq_true (h c hc)⟩
theorem Sh.app {n k : Nat} {a b : Str} (ha : Sh n a) (hb : Sh k b) : Sh (n + k) (a ++ b) := by
  refine ⟨asc_iff.mpr fun c hc => ?_, by rw [Str.length_append]; have := ha.l; have := hb.l; omega⟩
  rw [Str.cps_append, Array.toList_append] at hc
  rcases List.mem_append.mp hc with hc | hc
  · exact asc_iff.mp ha.a c hc
  · exact asc_iff.mp hb.a c hc
theorem Sh.cut {n : Nat} {z : Str} (h : Sh n z) (lo hi : Option Int) : Sh n (cutS z lo hi) := by
  refine ⟨asc_iff.mpr fun c hc => ?_, ?_⟩
  · unfold cutS at hc
    have hc' : c ∈ List.take (HT.sIx z.length z.length hi - HT.sIx z.length 0 lo) (List.drop (HT.sIx z.length 0 lo) z.cps.toList) := by simpa using hc
    exact asc_iff.mp h.a c (List.mem_of_mem_drop (List.mem_of_mem_take hc'))
  · have e : (cutS z lo hi).length ≤ z.length := by
      unfold cutS
      show (Array.size _) ≤ z.cps.size
      simp
      omega
    exact Nat.le_trans e h.l
theorem sh_az : Sh 26 AZ := ⟨by decide +kernel, by decide +kernel⟩
/-- d is a short plain text -/
def Tx (n : Nat) (d : D) : Prop := ∃ z, d = .str z ∧ Sh n z
theorem Tx.mono {n k : Nat} {d : D} (h : Tx n d) (e : n ≤ k) : Tx k d := let ⟨z, e1, s⟩ := h; ⟨z, e1, s.mono e⟩
theorem gIx_str {z : Str} {n : Nat} {k : Int} (hz : Sh n z) (hn : n ≤ 1000) (h0 : 0 ≤ k) (h : k < z.length) : ∃ y, gIx (.str z) (.int k) = some (.val (.str y)) ∧ Sh 1 y := by
  have hl : k < z.cps.toList.length := by rw [Array.length_toList]; exact h
  obtain ⟨c, hc, e⟩ := atI_get h0 hl
  have h1 : z.length ≤ sizeLine := by rw [sizeLine_eq]; have := hz.l; omega
  refine ⟨⟨#[c]⟩, ?_, ?_⟩
  · show (if z.length ≤ sizeLine then (atI z.cps.toList k).map _ else none) = _
    rw [if_pos h1, e]; rfl
  · refine ⟨asc_iff.mpr fun x hx => ?_, Nat.le_refl _⟩
    have ex : x = c := by simpa using hx
    rw [ex]
    exact asc_iff.mp hz.a c hc
theorem gAdd_str {a b : Str} {n k : Nat} (ha : Sh n a) (hb : Sh k b) (h : n + k ≤ 1000) : gAdd (.str a) (.str b) = some (.val (.str (a ++ b))) := by
  show (if a.length + b.length ≤ sizeLine then some (Out.val (PyData.str (a ++ b))) else none) = _
  have := ha.l
  have := hb.l
  rw [if_pos (by rw [sizeLine_eq]; omega)]
theorem gSl_str {z : Str} {n : Nat} (hz : Sh n z) (h : n ≤ 1000) (lo hi : Option Int) : gSl (.str z) lo hi = some (.val (.str (cutS z lo hi))) := by
  show (if z.length ≤ sizeLine then some (Out.val (PyData.str (cutS z lo hi))) else none) = _
  have := hz.l
  rw [if_pos (by rw [sizeLine_eq]; omega)]
abbrev sT (cs : List Int) (t : Int) : Option SV := some (.own (.st cs t))
abbrev fI (i : Int) : Option SV := some (.fro (.int i))
theorem cutD_map {α : Type} (f : α → D) (xs : List α) (lo hi : Option Int) : M3.cutD (xs.map f) lo hi = ((xs.drop (HT.sIx xs.length 0 lo)).take (HT.sIx xs.length xs.length hi - HT.sIx xs.length 0 lo)).map f := by
  unfold M3.cutD
  rw [List.length_map, List.map_take, List.map_drop]
theorem sh_ints (ns : List Int) : SeqAt.shaped (.list (ns.map PyData.int)) = true := sh_list (fun x hx => by
  obtain ⟨n, _, rfl⟩ := List.mem_map.mp hx
  exact sh_int n) fun x hx => by
  obtain ⟨n, _, rfl⟩ := List.mem_map.mp hx
  unfold PyData.depth
  omega
theorem gEq_ints (ns : List Int) : gEq (.list (ns.map PyData.int)) (.list []) = some ns.isEmpty := by
  unfold gEq
  rw [if_pos ⟨sh_ints ns, sh_nil⟩, eqv_nil]
  cases ns <;> rfl
def Wd (d : D) : Prop := d = .none ∨ ∃ i : Int, d = .int i ∧ -1000000000 ≤ i ∧ i ≤ 1000000000
theorem gIx2_0 (a b : D) : gIx (.list [a, b]) (.int 0) = some (.val a) := by simp [gIx, atI, ixN]
theorem gIx2_1 (a b : D) : gIx (.list [a, b]) (.int 1) = some (.val b) := by simp [gIx, atI, ixN]
theorem two_le : (2 : Nat) ≤ sizeLine := by rw [sizeLine_eq]; omega
def Na4 : Sm := (sPar [10, 11] (msCons (mLst dsNil) (msCons (mLst (dsCons (fE (oE (mC (.str "table")))) (dsCons (fE (oE (mC (.str "row")))) (dsCons (fE (oE (mC (.str "many")))) (dsCons (fE (oE (mC (.str "store")))) (dsCons (fE (oE (mC (.str "old")))) (dsCons (fE (oE (mC (.str "new")))) (dsCons (fE (oE (mC (.str "put")))) (dsCons (fE (oE (mC (.str "none")))) (dsCons (fE (oE (mC (.str "tie")))) (dsCons (fE (oE (mC (.str "drop")))) (dsCons (fE (oE (mC (.str "set")))) (dsCons (fE (oE (mC (.str "do")))) (dsCons (fE (oE (mC (.str "to")))) dsNil)))))))))))))) msNil)))
def Na5 : Sm := (sFor (mRng1 (msCons (oE (mVar 1)) msNil)) (.nm 12) (sSeq (sSet 13 (mOp gAdd (oE (mSl gSl (oE (mVar 5)) mNoPart (mPart (oE (mVar 7))))) (oE (mOp gIx (oE (mVar 2)) (oE (mOp gMod (oE (mOp gAdd (oE (mVar 3)) (oE (mOp gMul (oE (mVar 8)) (oE (mVar 12)))))) (oE (mC (.int 26)))))))))
    (sAppend 10 (fE (oE (mOp gAdd (oE (mVar 13)) (oE (mOp gIx (oE (mLst (dsCons (fE (oE (mSl gSl (oE (mVar 5)) (mPart (oE (mVar 7))) mNoPart))) (dsCons (fE (oE (mSl gSl (oE (mSl gSl (oE (mVar 5)) (mPart (oE (mVar 7))) mNoPart)) mNoPart (mPart (oE (mOp gMod (oE (mVar 12)) (oE (mC (.int 3))))))))) dsNil)))) (oE (mVar 9))))))))))
def Na6 : Sm := (sSet 14 (mCallB gList (msCons (oE (mVar 10)) msNil)))
def Na8 : Sm := (sRet (mVar 14))
def La : Sm := (sSeq (sSet 13 (mOp gAdd (oE (mSl gSl (oE (mVar 5)) mNoPart (mPart (oE (mVar 7))))) (oE (mOp gIx (oE (mVar 2)) (oE (mOp gMod (oE (mOp gAdd (oE (mVar 3)) (oE (mOp gMul (oE (mVar 8)) (oE (mVar 12)))))) (oE (mC (.int 26)))))))))
    (sAppend 10 (fE (oE (mOp gAdd (oE (mVar 13)) (oE (mOp gIx (oE (mLst (dsCons (fE (oE (mSl gSl (oE (mVar 5)) (mPart (oE (mVar 7))) mNoPart))) (dsCons (fE (oE (mSl gSl (oE (mSl gSl (oE (mVar 5)) (mPart (oE (mVar 7))) mNoPart)) mNoPart (mPart (oE (mOp gMod (oE (mVar 12)) (oE (mC (.int 3))))))))) dsNil)))) (oE (mVar 9)))))))))
theorem three_le : (3 : Nat) ≤ sizeLine := by rw [sizeLine_eq]; omega
def SM : List D := [.str "table", .str "row", .str "many", .str "store", .str "old", .str "new", .str "put", .str "none", .str "tie", .str "drop", .str "set", .str "do", .str "to"]
theorem na4 (a0 a1 a2 a3 a4 a5 a6 a7 a8 a9 : Option SV) : Na4 [a0, a1, a2, a3, a4, a5, a6, a7, a8, a9, none, none, none, none, none, none] = .nx [a0, a1, a2, a3, a4, a5, a6, a7, a8, a9, some (.own (.lst [])), some (.own (.lst SM)), none, none, none, none] := by
  have h : (13 : Nat) ≤ sizeLine := by rw [sizeLine_eq]; omega
  simp [Na4, SM, h]
theorem rng_get {n i : Nat} {d : D} (h : (rngD 0 n)[i]? = some d) : d = .int (i : Int) ∧ i < n := by
  unfold rngD at h
  rw [List.getElem?_map] at h
  by_cases hi : i < n
  · rw [List.getElem?_range hi] at h
    cases h
    exact ⟨by simp, hi⟩
  · rw [List.getElem?_eq_none (by simpa using hi)] at h
    cases h
theorem na5 (a0 : Option SV) (m a w p s h : Int) (z : Str) (hz : Sh 7 z) (hm : 0 ≤ m) (hm2 : m ≤ 100) (ha : 0 ≤ a) (ha2 : a < 26) (hs : s = 3 ∨ s = 5 ∨ s = 25) (hh : h = 0 ∨ h = 1) :
    ∃ pl x y, pl.length = m.toNat ∧ (∀ d ∈ pl, Tx 20 d) ∧
    Na5 [a0, fI m, some (.fro (.str AZ)), fI a, fI w, some (.fro (.str z)), none, fI p, fI s, fI h, some (.own (.lst [])), some (.own (.lst SM)), none, none, none, none] = .nx [a0, fI m, some (.fro (.str AZ)), fI a, fI w, some (.fro (.str z)), none, fI p, fI s, fI h, some (.own (.lst pl)), some (.own (.lst SM)), x, y, none, none] := by
  have hr : (rngD 0 m.toNat).length = m.toNat := by unfold rngD; rw [List.length_map, List.length_range]
  have hrn : -4611686018427387904 ≤ m ∧ m < 4611686018427387904 := by omega
  obtain ⟨ε', e1, pl, x, y, hl, hp, rfl⟩ := loop_nx (p := .nm 12) (body := La) (fun i ε => ∃ pl x y, pl.length = i ∧ (∀ d ∈ pl, Tx 20 d) ∧ ε = [a0, fI m, some (.fro (.str AZ)), fI a, fI w, some (.fro (.str z)), none, fI p, fI s, fI h, some (.own (.lst pl)), some (.own (.lst SM)), x, y, none, none])
    (ds := rngD 0 m.toNat) (k := 0) (ε := [a0, fI m, some (.fro (.str AZ)), fI a, fI w, some (.fro (.str z)), none, fI p, fI s, fI h, some (.own (.lst [])), some (.own (.lst SM)), none, none, none, none])
    ⟨[], none, none, rfl, (fun _ h => by cases h), rfl⟩ (fun i d ε hd hI => by
      obtain ⟨rfl, hi⟩ := rng_get hd
      obtain ⟨pl, x, y, hl, hp, rfl⟩ := hI
      have q1 : gMul (.int s) (.int (i : Int)) = some (.val (.int (s * i))) := gMul_i (by omega)
      have q2 : gMod (.int (a + s * i)) (.int 26) = some (.val (.int ((a + s * i) % 26))) := gMod_i (by omega)
      have q3 : gMod (.int (i : Int)) (.int 3) = some (.val (.int ((i : Int) % 3))) := gMod_i (by omega)
      have l26 : (AZ.length : Int) = 26 := by decide +kernel
      obtain ⟨c, ec, sc⟩ := gIx_str sh_az (by omega) (Int.emod_nonneg (a + s * i) (by omega : (26 : Int) ≠ 0)) (by rw [l26]; exact Int.emod_lt_of_pos _ (by omega))
      have s1 := hz.cut none (some p)
      have s2 := hz.cut (some p) none
      have s3 := s2.cut none (some ((i : Int) % 3))
      have g1 := gSl_str hz (by omega) none (some p)
      have g2 := gSl_str hz (by omega) (some p) none
      have g3 := gSl_str s2 (by omega) none (some ((i : Int) % 3))
      have g4 := gAdd_str s1 sc (by omega)
      have s4 := s1.app sc
      have hsz : pl.length < sizeLine := by rw [sizeLine_eq]; omega
      rcases hh with rfl | rfl
      · have g5 := gAdd_str s4 s2 (by omega)
        refine ⟨_, _, by simp; rfl, by simp [La, g1, g2, g3, g4, g5, q1, q2, q3, gAdd_i, ec, two_le, gIx2_0, hsz]; exact ⟨rfl, rfl, rfl⟩, _, _, _, ?_, ?_, rfl⟩
        · rw [List.length_append, List.length_singleton]; omega
        · intro d hd
          rcases List.mem_append.mp hd with hd | hd
          · exact hp d hd
          · rw [List.mem_singleton.mp hd]
            exact ⟨_, rfl, (s4.app s2).mono (by omega)⟩
      · have g5 := gAdd_str s4 s3 (by omega)
        refine ⟨_, _, by simp; rfl, by simp [La, g1, g2, g3, g4, g5, q1, q2, q3, gAdd_i, ec, two_le, gIx2_1, hsz]; exact ⟨rfl, rfl, rfl⟩, _, _, _, ?_, ?_, rfl⟩
        · rw [List.length_append, List.length_singleton]; omega
        · intro d hd
          rcases List.mem_append.mp hd with hd | hd
          · exact hp d hd
          · rw [List.mem_singleton.mp hd]
            exact ⟨_, rfl, (s4.app s3).mono (by omega)⟩)
  refine ⟨pl, x, y, by rw [hl, hr]; simp, hp, ?_⟩
  unfold La at e1
  simp [Na5, hrn, e1]
theorem tx_sh {n : Nat} {d : D} (h : Tx n d) : SeqAt.shaped d = true := by
  obtain ⟨z, rfl, s⟩ := h
  exact asc_sh s.a
theorem notin_nms {acc : List D} {d : D} (h : Nms acc) (hd : SeqAt.shaped d = true) : gNotIn d (.list acc) = some (!(acc.any fun z => PyData.eqv z d)) := by
  unfold gNotIn
  rw [in_nms h hd]
  rfl
def Cl (d : D) : Prop := ∃ a b, d = .tuple [a, b] ∧ Tx 20 a ∧ Wd b
def Tb (d : D) : Prop := ∃ a cols, d = .tuple [a, .tuple cols] ∧ Tx 20 a ∧ cols.length ≤ 6 ∧ ∀ c ∈ cols, Cl c
theorem wd_sh {d : D} (h : Wd d) : SeqAt.shaped d = true ∧ d.depth = 0 := by
  rcases h with rfl | ⟨i, rfl, _⟩
  · exact ⟨by decide +kernel, by unfold PyData.depth; rfl⟩
  · exact ⟨sh_int i, by unfold PyData.depth; rfl⟩
theorem tx_dep {n : Nat} {d : D} (h : Tx n d) : d.depth = 0 := by
  obtain ⟨z, rfl, _⟩ := h
  unfold PyData.depth; rfl
theorem sh_tup {xs : List D} (h1 : ∀ x ∈ xs, SeqAt.shaped x = true) (h2 : ∀ x ∈ xs, x.depth ≤ 63) : SeqAt.shaped (.tuple xs) = true := by
  unfold SeqAt.shaped
  rw [Bool.and_eq_true, decide_eq_true_eq]
  have e1 : PyData.canLayAll0 xs = true := canAll fun x hx => (Bool.and_eq_true_iff.mp (show SeqAt.shaped x = true from h1 x hx)).1
  have e2 := depAll h2
  refine ⟨?_, ?_⟩
  · unfold PyData.canLay0; exact e1
  · unfold PyData.depth; omega
theorem cl_sh {d : D} (h : Cl d) : SeqAt.shaped d = true ∧ d.depth ≤ 1 := by
  obtain ⟨a, b, rfl, ha, hb⟩ := h
  have m : ∀ x ∈ [a, b], SeqAt.shaped x = true ∧ x.depth = 0 := by
    intro x hx
    rcases List.mem_cons.mp hx with rfl | hx
    · exact ⟨tx_sh ha, tx_dep ha⟩
    · rw [List.mem_singleton.mp hx]
      exact wd_sh hb
  refine ⟨sh_tup (fun x hx => (m x hx).1) fun x hx => by rw [(m x hx).2]; omega, ?_⟩
  unfold PyData.depth
  have := depAll (n := 0) fun x hx => Nat.le_of_eq (m x hx).2
  omega
theorem gNe_cl {cl : List D} (h : ∀ c ∈ cl, Cl c) : gNe (.list cl) (.list []) = some (!cl.isEmpty) := by
  unfold gNe
  rw [if_pos ⟨sh_list (fun x hx => (cl_sh (h x hx)).1) fun x hx => by have := (cl_sh (h x hx)).2; omega, sh_nil⟩, eqv_nil]
mutual
def lf (N : Int) : D → Bool
  | .none => true
  | .bool _ => true
  | .int i => decide (-N ≤ i) && decide (i ≤ N)
  | .str z => asc z
  | .list xs => lfAll N xs
  | .tuple xs => lfAll N xs
  | .dict _ => false
def lfAll (N : Int) : List D → Bool
  | [] => true
  | x :: xs => lf N x && lfAll N xs
end
theorem lfAll_of {N : Int} : ∀ {xs : List D}, (∀ x ∈ xs, lf N x = true) → lfAll N xs = true
  | [], _ => by unfold lfAll; rfl
  | y :: ys, h => by
    unfold lfAll
    rw [h y List.mem_cons_self, lfAll_of fun x hx => h x (List.mem_cons_of_mem _ hx)]
    rfl
theorem log_lt {i : Int} (h : i.natAbs < 10 ^ 40) : i.natAbs.log2 < 140 := by
  by_cases h0 : i.natAbs = 0
  · rw [h0]; decide
  · exact (Nat.log2_lt h0).mpr (Nat.lt_trans h (by decide))
theorem shown_int_len {i : Int} (h : i.natAbs < 10 ^ 40) : (PyData.shown (.int i)).length ≤ 41 := by
  have := int_text_length_le10 (k := 40) (by omega) h
  unfold PyData.shown
  show (Str.ofString (toString i)).length ≤ 41
  rw [PySem.ofString_length]
  exact this
mutual
theorem lf_lay {N : Int} (hN : N < 10 ^ 40) : ∀ d : D, lf N d = true → d.canLay0 = true ∧ PyData.showable d = true ∧ PyData.hasDict d = false ∧ PyData.leavesShort 41 d = true
  | .none, _ => by simp [PyData.canLay0, PyData.showable, PyData.hasDict, PyData.leavesShort]
  | .bool _, _ => by simp [PyData.canLay0, PyData.showable, PyData.hasDict, PyData.leavesShort]
  | .int i, h => by
    unfold lf at h
    rw [Bool.and_eq_true, decide_eq_true_eq, decide_eq_true_eq] at h
    have hn : i.natAbs < 10 ^ 40 := by omega
    have h1 := log_lt hn
    have h2 := shown_int_len hn
    simp [PyData.canLay0, PyData.showable, PyData.hasDict, PyData.leavesShort, h2]
    omega
  | .str z, h => by
    have ha : asc z = true := by unfold lf at h; exact h
    have hc := asc_iff.mp ha
    have h1 : PyData.canLay0 (.str z) = true := (Bool.and_eq_true_iff.mp (show SeqAt.shaped (.str z) = true from asc_sh ha)).1
    refine ⟨h1, by simp [PyData.showable], by simp [PyData.hasDict], ?_⟩
    unfold PyData.leavesShort
    rw [List.all_eq_true]
    intro c hx
    have := hc c hx
    exact decide_eq_true (by omega)
  | .list xs, h => by
    have := lf_layAll hN xs (by unfold lf at h; exact h)
    simp only [PyData.canLay0, PyData.showable, PyData.hasDict, PyData.leavesShort]
    exact this
  | .tuple xs, h => by
    have := lf_layAll hN xs (by unfold lf at h; exact h)
    simp only [PyData.canLay0, PyData.showable, PyData.hasDict, PyData.leavesShort]
    exact this
  | .dict _, h => by unfold lf at h; cases h
theorem lf_layAll {N : Int} (hN : N < 10 ^ 40) : ∀ xs : List D, lfAll N xs = true → PyData.canLayAll0 xs = true ∧ PyData.showableAll xs = true ∧ PyData.hasDictAll xs = false ∧ PyData.leavesShortAll 41 xs = true
  | [], _ => by simp [PyData.canLayAll0, PyData.showableAll, PyData.hasDictAll, PyData.leavesShortAll]
  | x :: xs, h => by
    unfold lfAll at h
    rw [Bool.and_eq_true] at h
    obtain ⟨a1, a2, a3, a4⟩ := lf_lay hN x h.1
    obtain ⟨b1, b2, b3, b4⟩ := lf_layAll hN xs h.2
    simp [PyData.canLayAll0, PyData.showableAll, PyData.hasDictAll, PyData.leavesShortAll, a1, a2, a3, a4, b1, b2, b3, b4]
end
structure Fi (N : Int) (W k : Nat) (d : D) : Prop where
  l : lf N d = true
  w : d.weight ≤ W
  p : d.depth ≤ k
structure FL (N : Int) (W k : Nat) (xs : List D) : Prop where
  l : ∀ x ∈ xs, lf N x = true
  w : PyData.weightAll xs ≤ W
  p : ∀ x ∈ xs, x.depth ≤ k
theorem Fi.okd {N : Int} {W k : Nat} {d : D} (h : Fi N W k d) (hN : N < 10 ^ 40) (hW : W ≤ 300000) (hk : k ≤ 64) : Okd d := by
  obtain ⟨a1, a2, a3, a4⟩ := lf_lay hN d h.l
  have hp := h.p
  have hw := h.w
  refine ⟨by omega, ?_, a2, a3, ?_⟩
  · unfold SeqAt.shaped
    rw [a1, Bool.true_and]
    exact decide_eq_true (by omega)
  · have := PyData.shown_le 41 (by omega) d a4
    rw [sizeLine_eq]
    omega
theorem FL.lst {N : Int} {W k : Nat} {xs : List D} (h : FL N W k xs) : Fi N W (k + 1) (.list xs) :=
  ⟨by unfold lf; exact lfAll_of h.l, by unfold PyData.weight; exact h.w, by unfold PyData.depth; have := depAll h.p; omega⟩
theorem FL.tup {N : Int} {W k : Nat} {xs : List D} (h : FL N W k xs) : Fi N W (k + 1) (.tuple xs) :=
  ⟨by unfold lf; exact lfAll_of h.l, by unfold PyData.weight; exact h.w, by unfold PyData.depth; have := depAll h.p; omega⟩
theorem FL.mem {N : Int} {W k : Nat} {xs : List D} (h : FL N W k xs) {x : D} (hx : x ∈ xs) : Fi N W k x := ⟨h.l x hx, by have := w_all hx; have := h.w; omega, h.p x hx⟩
theorem wA_cons (x : D) (xs : List D) : PyData.weightAll (x :: xs) = x.weight + 1 + PyData.weightAll xs := by
  conv => lhs; unfold PyData.weightAll
theorem wA_app (a b : List D) : PyData.weightAll (a ++ b) = PyData.weightAll a + PyData.weightAll b := by
  induction a with
  | nil => simp [PyData.weightAll]
  | cons x xs ih => rw [List.cons_append, wA_cons, wA_cons, ih]; omega
theorem FL.app {N : Int} {W V k : Nat} {a b : List D} (ha : FL N W k a) (hb : FL N V k b) : FL N (W + V) k (a ++ b) :=
  ⟨fun x hx => (List.mem_append.mp hx).elim (ha.l x) (hb.l x), by rw [wA_app]; have := ha.w; have := hb.w; omega, fun x hx => (List.mem_append.mp hx).elim (ha.p x) (hb.p x)⟩
theorem wA_sub {a b : List D} (h : b.Sublist a) : PyData.weightAll b ≤ PyData.weightAll a := by
  induction h with
  | slnil => exact Nat.le_refl _
  | cons x _ ih => rw [wA_cons]; omega
  | cons_cons x _ ih => rw [wA_cons, wA_cons]; omega
theorem FL.sub {N : Int} {W k : Nat} {a b : List D} (ha : FL N W k a) (h : b.Sublist a) : FL N W k b :=
  ⟨fun x hx => ha.l x (h.subset hx), Nat.le_trans (wA_sub h) ha.w, fun x hx => ha.p x (h.subset hx)⟩
theorem FL.mono {N M : Int} {W V k j : Nat} {a : List D} (h : FL N W k a) (hN : ∀ x, lf N x = true → lf M x = true) (hW : W ≤ V) (hk : k ≤ j) : FL M V j a := ⟨fun x hx => hN x (h.l x hx), Nat.le_trans h.w hW, fun x hx => Nat.le_trans (h.p x hx) hk⟩
mutual
theorem lf_mono {N M : Int} (h : N ≤ M) : ∀ d : D, lf N d = true → lf M d = true
  | .none, _ => by unfold lf; rfl
  | .bool _, _ => by unfold lf; rfl
  | .int i, q => by unfold lf at q ⊢; simp at q ⊢; omega
  | .str z, q => by unfold lf at q ⊢; exact q
  | .list xs, q => by unfold lf at q ⊢; exact lfAll_mono h xs q
  | .tuple xs, q => by unfold lf at q ⊢; exact lfAll_mono h xs q
  | .dict _, q => by unfold lf at q; cases q
theorem lfAll_mono {N M : Int} (h : N ≤ M) : ∀ xs : List D, lfAll N xs = true → lfAll M xs = true
  | [], _ => by unfold lfAll; rfl
  | x :: xs, q => by
    unfold lfAll at q ⊢
    rw [Bool.and_eq_true] at q ⊢
    exact ⟨lf_mono h x q.1, lfAll_mono h xs q.2⟩
end
theorem Fi.mono {N M : Int} {W V k j : Nat} {d : D} (h : Fi N W k d) (hN : N ≤ M) (hW : W ≤ V) (hk : k ≤ j) : Fi M V j d := ⟨lf_mono hN d h.l, Nat.le_trans h.w hW, Nat.le_trans h.p hk⟩
theorem FL.one {N : Int} {W k : Nat} {d : D} (h : Fi N W k d) : FL N (W + 1) k [d] := ⟨fun x hx => by rw [List.mem_singleton.mp hx]; exact h.l, by simp [PyData.weightAll]; exact h.w, fun x hx => by rw [List.mem_singleton.mp hx]; exact h.p⟩
theorem FL.set {N : Int} {W V k : Nat} {a : List D} {d : D} (h : FL N W k a) (hd : Fi N V k d) (i : Nat) : FL N (W + V) k (a.set i d) := by
  refine ⟨fun x hx => ?_, ?_, fun x hx => ?_⟩
  · rcases List.mem_or_eq_of_mem_set hx with hx | rfl
    · exact h.l x hx
    · exact hd.l
  · have : ∀ (a : List D) (i : Nat), PyData.weightAll (a.set i d) ≤ PyData.weightAll a + d.weight := by
      intro a
      induction a with
      | nil => intro i; simp [PyData.weightAll]
      | cons x xs ih =>
        intro i
        cases i with
        | zero => rw [List.set_cons_zero]; unfold PyData.weightAll; omega
        | succ i => rw [List.set_cons_succ]; unfold PyData.weightAll; have := ih i; omega
    have := this a i
    have := h.w
    have := hd.w
    omega
  · rcases List.mem_or_eq_of_mem_set hx with hx | rfl
    · exact h.p x hx
    · exact hd.p
theorem bl (n : Nat) (h : n ≤ 1000000) : n ≤ sizeLine := by rw [sizeLine_eq]; omega
abbrev MM : Int := 1000000001
theorem fi_str {z : Str} {N : Int} {W : Nat} (h : asc z = true) (hl : z.length ≤ W) : Fi N W 0 (.str z) :=
  ⟨by unfold lf; exact h, by unfold PyData.weight; exact hl, by unfold PyData.depth; omega⟩
theorem gAdd_l {xs ys : List D} (h : xs.length + ys.length ≤ 1000000) : gAdd (.list xs) (.list ys) = some (.newl (xs ++ ys)) := by
  show (if xs.length + ys.length ≤ sizeLine then some (Out.newl (xs ++ ys)) else none) = _
  rw [if_pos (by rw [sizeLine_eq]; omega)]
theorem w_int62 {i : Int} (h : i.natAbs < 2 ^ 62) : (PyData.int i).weight ≤ 62 := by
  have hl : i.natAbs.log2 < 62 := by
    by_cases h0 : i.natAbs = 0
    · rw [h0]; decide
    · exact (Nat.log2_lt h0).mpr h
  unfold PyData.weight
  split <;> omega
theorem wd_fi {d : D} (h : Wd d) : Fi MM 62 0 d := by
  rcases h with rfl | ⟨i, rfl, h1, h2⟩
  · exact ⟨by unfold lf; rfl, by decide +kernel, by decide +kernel⟩
  · exact ⟨by unfold lf; simp; have : MM = 1000000001 := rfl; omega, w_int62 (by omega), by unfold PyData.depth; omega⟩
theorem tx_fi {n : Nat} {d : D} (h : Tx n d) : Fi MM n 0 d := by
  obtain ⟨z, rfl, s⟩ := h
  exact fi_str s.a s.l
theorem fl_all {N : Int} {W k : Nat} : ∀ {xs : List D}, (∀ x ∈ xs, Fi N W k x) → FL N (xs.length * (W + 1)) k xs
  | [], _ => ⟨(fun _ h => by cases h), by simp [PyData.weightAll], (fun _ h => by cases h)⟩
  | x :: xs, h => by
    have f := (FL.one (h x List.mem_cons_self)).app (fl_all fun y hy => h y (List.mem_cons_of_mem _ hy))
    have e : (x :: xs).length * (W + 1) = (W + 1) + xs.length * (W + 1) := by rw [List.length_cons, Nat.add_mul, Nat.one_mul]; omega
    rw [e]
    exact f
theorem cl_fi {d : D} (h : Cl d) : Fi MM 84 1 d := by
  obtain ⟨a, b, rfl, ha, hb⟩ := h
  exact (((FL.one (tx_fi ha)).app (FL.one (wd_fi hb))).tup).mono (Int.le_refl _) (by omega) (by omega)
theorem tb_fi {d : D} (h : Tb d) : Fi MM 532 3 d := by
  obtain ⟨a, cols, rfl, ha, hl, hc⟩ := h
  have f1 : Fi MM 510 2 (.tuple cols) := ((fl_all fun x hx => cl_fi (hc x hx)).tup).mono (Int.le_refl _) (by have := Nat.mul_le_mul_right (84 + 1) hl; omega) (by omega)
  have f2 : Fi MM 20 2 a := (tx_fi ha).mono (Int.le_refl _) (by omega) (by omega)
  exact (((FL.one f2).app (FL.one f1)).tup).mono (Int.le_refl _) (by omega) (by omega)
theorem ts_fi {ts : List D} (h : ∀ x ∈ ts, Tb x) (hl : ts.length ≤ 7) : Fi MM 3731 4 (.tuple ts) :=
  ((fl_all fun x hx => tb_fi (h x hx)).tup).mono (Int.le_refl _) (by have := Nat.mul_le_mul_right (532 + 1) hl; omega) (by omega)
def hd0 : D → D
  | .tuple (a :: _) => a
  | _ => .none
end M4

namespace M5
open PySem PySem.Spec L2 M3 M4
open PyProof.Rows hiding St
def B_is_tuple_of : Sm := (sRet (mAndV (oE (mIsi "tuple" (oE (mVar 0)))) (mOp (bo gEq) (oE (mCallB gLen (msCons (oE (mVar 0)) msNil))) (oE (mVar 1)))))
def F_is_tuple_of : M RV := fnF [0, 1] 2 (B_is_tuple_of)
def B_table_place : Sm := (sSeq (sFor (mEnum (dsCons (fE (oE (mVar 0))) dsNil)) (.tp [(.nm 2), (.tp [(.nm 3), (.nm 4)])]) (sIf (mBl (mOp (bo gEq) (oE (mVar 3)) (oE (mVar 1)))) (sRet (mVar 2)) sNext))
    sBad)
def F_table_place : M RV := fnF [0, 1] 5 (B_table_place)
def B_columns_of : Sm := (sRet (mOp gIx (oE (mOp gIx (oE (mVar 0)) (oE (mCall 2 F_table_place (msCons (oE (mVar 0)) (msCons (oE (mVar 1)) msNil)))))) (oE (mC (.int 1)))))
def F_columns_of : M RV := fnF [0, 1] 2 (B_columns_of)
def B_law_begin : Sm := (sSeq (sSet 1 (mCallB gList (msCons (oE (mScrSl 0 mNoPart (mPart (oE (mC (.int 63)))))) msNil)))
    (sSeq (sIf (mBl (mOp (bo gEq) (oE (mVar 1)) (oE (mLst dsNil)))) (sSet 1 (mLst (dsCons (fE (oE (mC (.int 17)))) dsNil))) sNext)
    (sRetSt 1 0)))
def F_law_begin : M RV := fnF [0] 2 (B_law_begin)
def B_law_take : Sm := (sSeq (sSet 2 (mOp gAdd (oE (mStTurn 0)) (oE (mC (.int 1)))))
    (sSeq (sStTurn 0 (oE (mVar 2)))
    (sSeq (sSet 3 (mOp gMod (oE (mVar 2)) (oE (mStLen 0))))
    (sSeq (sSet 4 (mStCell 0 3))
    (sSeq (sIf (mBl (mOp (bo gGe) (oE (mVar 4)) (oE (mOp gPow (oE (mC (.int 10))) (oE (mC (.int 18))))))) (sSeq (sStPut 0 5 3 (oE (mVar 4)) (oE (mVar 1)))
    (sRet (mVar 5))) sNext)
    (sSeq (sSet 6 (mOp gAdd (oE (mOp gMod (oE (mVar 4)) (oE (mC (.int 2147483629))))) (oE (mOp gMul (oE (mOp gMod (oE (mOp gDiv (oE (mVar 4)) (oE (mC (.int 2147483629))))) (oE (mC (.int 40009))))) (oE (mC (.int 977)))))))
    (sSeq (sSet 7 (mOp gMod (oE (mOp gMul (oE (mOp gAdd (oE (mOp gAdd (oE (mVar 6)) (oE (mOp gMul (oE (mOp gMul (oE (mVar 2)) (oE (mVar 2)))) (oE (mC (.int 6007))))))) (oE (mC (.int 29))))) (oE (mC (.int 48271))))) (oE (mC (.int 2147483647)))))
    (sSeq (sSet 7 (mOp gMod (oE (mOp gMul (oE (mVar 7)) (oE (mVar 7)))) (oE (mC (.int 2147483579)))))
    (sRet (mOp gMod (oE (mOp gDiv (oE (mOp gMod (oE (mOp gMul (oE (mOp gAdd (oE (mVar 7)) (oE (mOp gMul (oE (mVar 2)) (oE (mC (.int 103049))))))) (oE (mC (.int 69621))))) (oE (mC (.int 2147483629))))) (oE (mC (.int 64))))) (oE (mVar 1))))))))))))
def F_law_take : M RV := fnF [0, 1] 8 (B_law_take)
def B_law_some : Sm := (sRet (mOp gIx (oE (mVar 1)) (oE (mCall 2 F_law_take (msCons (oE (mVar 0)) (msCons (oE (mCallB gLen (msCons (oE (mVar 1)) msNil))) msNil))))))
def F_law_some : M RV := fnF [0, 1] 2 (B_law_some)
def B_law_names : Sm := (sSeq (sUnp (fE (oE (mTup (dsCons (fE (oE (mC (.str "abcdefghijklmnopqrstuvwxyz")))) (dsCons (fE (oE (mCall 2 F_law_take (msCons (oE (mVar 0)) (msCons (oE (mC (.int 26))) msNil))))) (dsCons (fE (oE (mCall 2 F_law_take (msCons (oE (mVar 0)) (msCons (oE (mC (.int 4))) msNil))))) dsNil)))))) (.tp [(.nm 2), (.nm 3), (.nm 4)]))
    (sSeq (sSet 5 (mBM gJoin (oE (mC (.str ""))) (msCons (oE (mLc (mRng1 (msCons (oE (mCall 2 F_law_take (msCons (oE (mVar 0)) (msCons (oE (mC (.int 8))) msNil)))) msNil)) (.nm 6) [6] mYes (fE (oE (mOp gIx (oE (mVar 2)) (oE (mCall 2 F_law_take (msCons (oE (mVar 0)) (msCons (oE (mC (.int 26))) msNil))))))))) msNil)))
    (sSeq (sPar [7, 8, 9] (msCons (mCall 2 F_law_take (msCons (oE (mVar 0)) (msCons (oE (mOp gAdd (oE (mCallB gLen (msCons (oE (mVar 5)) msNil))) (oE (mC (.int 1))))) msNil))) (msCons (mOp gIx (oE (mLst (dsCons (fE (oE (mC (.int 3)))) (dsCons (fE (oE (mC (.int 5)))) (dsCons (fE (oE (mC (.int 25)))) dsNil))))) (oE (mCall 2 F_law_take (msCons (oE (mVar 0)) (msCons (oE (mC (.int 3))) msNil))))) (msCons (mCall 2 F_law_take (msCons (oE (mVar 0)) (msCons (oE (mC (.int 2))) msNil))) msNil))))
    (sSeq (sPar [10, 11] (msCons (mLst dsNil) (msCons (mLst (dsCons (fE (oE (mC (.str "table")))) (dsCons (fE (oE (mC (.str "row")))) (dsCons (fE (oE (mC (.str "many")))) (dsCons (fE (oE (mC (.str "store")))) (dsCons (fE (oE (mC (.str "old")))) (dsCons (fE (oE (mC (.str "new")))) (dsCons (fE (oE (mC (.str "put")))) (dsCons (fE (oE (mC (.str "none")))) (dsCons (fE (oE (mC (.str "tie")))) (dsCons (fE (oE (mC (.str "drop")))) (dsCons (fE (oE (mC (.str "set")))) (dsCons (fE (oE (mC (.str "do")))) (dsCons (fE (oE (mC (.str "to")))) dsNil)))))))))))))) msNil)))
    (sSeq (sFor (mRng1 (msCons (oE (mVar 1)) msNil)) (.nm 12) (sSeq (sSet 13 (mOp gAdd (oE (mSl gSl (oE (mVar 5)) mNoPart (mPart (oE (mVar 7))))) (oE (mOp gIx (oE (mVar 2)) (oE (mOp gMod (oE (mOp gAdd (oE (mVar 3)) (oE (mOp gMul (oE (mVar 8)) (oE (mVar 12)))))) (oE (mC (.int 26)))))))))
    (sAppend 10 (fE (oE (mOp gAdd (oE (mVar 13)) (oE (mOp gIx (oE (mLst (dsCons (fE (oE (mSl gSl (oE (mVar 5)) (mPart (oE (mVar 7))) mNoPart))) (dsCons (fE (oE (mSl gSl (oE (mSl gSl (oE (mVar 5)) (mPart (oE (mVar 7))) mNoPart)) mNoPart (mPart (oE (mOp gMod (oE (mVar 12)) (oE (mC (.int 3))))))))) dsNil)))) (oE (mVar 9))))))))))
    (sSeq (sSet 14 (mCallB gList (msCons (oE (mVar 10)) msNil)))
    (sSeq (sFor (mRng1 (msCons (oE (mOp gMul (oE (mCallB gMin (msCons (oE (mVar 1)) (msCons (oE (mC (.int 13))) msNil)))) (oE (mCallB gInt (msCons (oE (mOp (bo gEq) (oE (mVar 4)) (oE (mC (.int 0))))) msNil))))) msNil)) (.nm 12) (sSeq (sSet 15 (mOp gIx (oE (mVar 11)) (oE (mOp gMod (oE (mOp gAdd (oE (mVar 3)) (oE (mVar 12)))) (oE (mC (.int 13)))))))
    (sIf (mAnd (mBl (mOp (bo gNotIn) (oE (mVar 15)) (oE (mVar 10)))) (mBl (mOp (bo gEq) (oE (mCall 2 F_law_take (msCons (oE (mVar 0)) (msCons (oE (mC (.int 2))) msNil)))) (oE (mC (.int 0)))))) (sSetItem 14 (oE (mVar 12)) (fE (oE (mVar 15)))) sNext)))
    (sRet (mVar 14)))))))))
def F_law_names : M RV := fnF [0, 1] 16 (B_law_names)
def B_law_worth : Sm := (sSeq (sSet 1 (mCall 2 F_law_take (msCons (oE (mVar 0)) (msCons (oE (mC (.int 8))) msNil))))
    (sSeq (sIf (mBl (mOp (bo gLt) (oE (mVar 1)) (oE (mC (.int 2))))) (sRet (mOp gIx (oE (mLst (dsCons (fE (oE (mC .none))) (dsCons (fE (oE (mC (.int 0)))) dsNil)))) (oE (mVar 1)))) sNext)
    (sSeq (sIf (mBl (mOp (bo gLt) (oE (mVar 1)) (oE (mC (.int 6))))) (sRet (mOp M3.gSub (oE (mCall 2 F_law_take (msCons (oE (mVar 0)) (msCons (oE (mC (.int 9))) msNil)))) (oE (mC (.int 4))))) sNext)
    (sRet (mOp gIx (oE (mLst (dsCons (fE (oE (mOp M3.gSub (oE (mCall 2 F_law_take (msCons (oE (mVar 0)) (msCons (oE (mOp gAdd (oE (mOp gMul (oE (mC (.int 2))) (oE (mOp gPow (oE (mC (.int 10))) (oE (mC (.int 9))))))) (oE (mC (.int 1))))) msNil)))) (oE (mOp gPow (oE (mC (.int 10))) (oE (mC (.int 9)))))))) (dsCons (fE (oE (mOp M3.gSub (oE (mOp gPow (oE (mC (.int 10))) (oE (mC (.int 9))))) (oE (mOp gMul (oE (mOp gMul (oE (mC (.int 2))) (oE (mOp gPow (oE (mC (.int 10))) (oE (mC (.int 9))))))) (oE (mCall 2 F_law_take (msCons (oE (mVar 0)) (msCons (oE (mC (.int 2))) msNil))))))))) dsNil)))) (oE (mOp M3.gSub (oE (mVar 1)) (oE (mC (.int 6))))))))))
def F_law_worth : M RV := fnF [0] 2 (B_law_worth)
def B_law_tables : Sm := (sSeq (sSet 3 (mLst dsNil))
    (sSeq (sFor (mIt (fE (oE (mCall 2 F_law_names (msCons (oE (mVar 0)) (msCons (oE (mVar 1)) msNil)))))) (.nm 4) (sSeq (sSet 5 (mLst dsNil))
    (sSeq (sFor (mIt (fE (oE (mCall 2 F_law_names (msCons (oE (mVar 0)) (msCons (oE (mOp gAdd (oE (mC (.int 1))) (oE (mCall 2 F_law_take (msCons (oE (mVar 0)) (msCons (oE (mVar 2)) msNil)))))) msNil)))))) (.nm 6) (sAppend 5 (fE (oE (mTup (dsCons (fE (oE (mVar 6))) (dsCons (fE (oE (mIfE (mBl (mOp (bo gNe) (oE (mVar 5)) (oE (mLst dsNil)))) (mCall 1 F_law_worth (msCons (oE (mVar 0)) msNil)) (mC .none)))) dsNil)))))))
    (sAppend 3 (fE (oE (mTup (dsCons (fE (oE (mVar 4))) (dsCons (fE (oE (mCallB gTuple (msCons (oE (mVar 5)) msNil)))) dsNil)))))))))
    (sRet (mCallB gTuple (msCons (oE (mVar 3)) msNil)))))
def F_law_tables : M RV := fnF [0, 1, 2] 7 (B_law_tables)
end M5

namespace M5
open PySem PySem.Spec L2 M3 M4
open PyProof.Rows hiding St
theorem B_take_is : B_law_take = P_take T_take := rfl
theorem take_ok (cs : List Int) (t m : Int) (hc : cs ≠ []) (ht : 0 ≤ t) (ht2 : t < 1000000) (hm : 0 < m) (hm2 : m < 2 ^ 60) :
    ∃ k cs', 0 ≤ k ∧ k < m ∧ cs' ≠ [] ∧ F_law_take [some (.own (.st cs t)), some (.fro (.int m))] = .ok (.fro (.int k)) [some (.own (.st cs' (t + 1))), some (.fro (.int m))] := by
  have hl : 0 < cs.length := List.length_pos_iff.mpr hc
  have hl2 : (0 : Int) < (cs.length : Int) := by omega
  have p1 : 0 ≤ (t + 1) % (cs.length : Int) := Int.emod_nonneg _ (by omega)
  have p2 : (t + 1) % (cs.length : Int) < (cs.length : Int) := Int.emod_lt_of_pos _ hl2
  obtain ⟨cell, _, hcell⟩ := atI_get (xs := cs) p1 p2
  have gm : gMod (.int (t + 1)) (.int (cs.length : Int)) = some (.val (.int ((t + 1) % (cs.length : Int)))) := gMod_i hl2
  by_cases hbig : (1000000000000000000 : Int) ≤ cell
  · refine ⟨cell % m, cs.set ((t + 1) % (cs.length : Int)).toNat (cell / m), Int.emod_nonneg _ (by omega), Int.emod_lt_of_pos _ hm, ?_, ?_⟩
    · intro e
      have := congrArg List.length e
      rw [List.length_set] at this
      simp at this
      exact hc this
    · simp [F_law_take, B_law_take, gAdd_i, gm, hcell, gI, gPow, hbig, hm, lg hm hm2, ixN_lt p1 p2]
  · obtain ⟨k, x, y, h0, h1, eT⟩ := t_take cs t m ((t + 1) % (cs.length : Int)) cell hm ht ht2
    refine ⟨k, cs, h0, h1, hc, ?_⟩
    simp [F_law_take, B_take_is, P_take, gAdd_i, gm, hcell, gI, gPow, hbig, eT]
theorem begin_ok (ns : List Int) : ∃ cs, cs ≠ [] ∧ F_law_begin [some (.scr ns)] = .ok (.new (.st cs 0)) [some (.scr ns)] := by
  have h17 : (1 : Nat) ≤ sizeLine := by rw [sizeLine_eq]; omega
  generalize hc : (ns.drop (HT.sIx ns.length 0 none)).take (HT.sIx ns.length ns.length (some 63) - HT.sIx ns.length 0 none) = cs
  have e := cutD_map PyData.int ns none (some 63)
  rw [hc] at e
  have g := gEq_ints cs
  cases cs with
  | nil =>
    refine ⟨[17], by simp, ?_⟩
    simp at e g
    simp [F_law_begin, B_law_begin, gList, e, g, h17, intsD]
  | cons c cs =>
    refine ⟨c :: cs, by simp, ?_⟩
    have i := intsD_map (c :: cs)
    simp at e g i
    simp [F_law_begin, B_law_begin, gList, e, g, i]
theorem worth_ok (cs : List Int) (t : Int) (hc : cs ≠ []) (ht : 0 ≤ t) (ht2 : t < 900000) :
    ∃ d cs' t', Wd d ∧ cs' ≠ [] ∧ t ≤ t' ∧ t' ≤ t + 3 ∧ F_law_worth [sT cs t] = .ok (.fro d) [sT cs' t'] := by
  obtain ⟨k, cs1, k0, k1, c1, e1⟩ := take_ok cs t 8 hc ht (by omega) (by omega) (by omega)
  by_cases h2 : k < 2
  · have hk : k = 0 ∨ k = 1 := by omega
    rcases hk with rfl | rfl
    · exact ⟨.none, cs1, t + 1, .inl rfl, c1, by omega, by omega, by simp [F_law_worth, B_law_worth, e1, gI, two_le, gIx2_0]⟩
    · exact ⟨.int 0, cs1, t + 1, .inr ⟨0, rfl, by omega, by omega⟩, c1, by omega, by omega, by simp [F_law_worth, B_law_worth, e1, gI, two_le, gIx2_1]⟩
  · by_cases h6 : k < 6
    · obtain ⟨j, cs2, j0, j1, c2, e2⟩ := take_ok cs1 (t + 1) 9 c1 (by omega) (by omega) (by omega) (by omega)
      exact ⟨.int (j - 4), cs2, t + 1 + 1, .inr ⟨j - 4, rfl, by omega, by omega⟩, c2, by omega, by omega, by simp [F_law_worth, B_law_worth, e1, gI, h2, h6, e2, gSub_i]⟩
    · obtain ⟨j, cs2, j0, j1, c2, e2⟩ := take_ok cs1 (t + 1) 2000000001 c1 (by omega) (by omega) (by omega) (by omega)
      obtain ⟨l, cs3, l0, l1, c3, e3⟩ := take_ok cs2 (t + 1 + 1) 2 c2 (by omega) (by omega) (by omega) (by omega)
      have hm : gMul (.int 2000000000) (.int l) = some (.val (.int (2000000000 * l))) := gMul_i (by omega)
      have hm2 : gMul (.int 2) (.int 1000000000) = some (.val (.int 2000000000)) := gMul_i (by omega)
      have hk : k = 6 ∨ k = 7 := by omega
      rcases hk with rfl | rfl
      · exact ⟨.int (j - 1000000000), cs3, t + 1 + 1 + 1, .inr ⟨_, rfl, by omega, by omega⟩, c3, by omega, by omega, by simp [F_law_worth, B_law_worth, e1, gI, e2, gSub_i, gAdd_i, gPow, hm2, hm, e3, two_le, gIx2_0]⟩
      · exact ⟨.int (1000000000 - 2000000000 * l), cs3, t + 1 + 1 + 1, .inr ⟨_, rfl, by omega, by omega⟩, c3, by omega, by omega, by simp [F_law_worth, B_law_worth, e1, gI, e2, gSub_i, gAdd_i, gPow, hm2, hm, e3, two_le, gIx2_1]⟩
end M5

namespace M5
open PySem PySem.Spec L2 M3 M4
open PyProof.Rows hiding St
/-! ### texts as lists of signs -/
def sL (l : List Nat) : Str := ⟨l.toArray⟩
def dL (l : List Nat) : D := .str (sL l)
theorem sL_list (l : List Nat) : (sL l).cps.toList = l := by unfold sL; simp
theorem sL_len (l : List Nat) : (sL l).length = l.length := by unfold sL; show Array.size _ = _; simp
theorem sL_inj {a b : List Nat} (h : sL a = sL b) : a = b := by rw [← sL_list a, h, sL_list]
theorem sL_app (a b : List Nat) : sL a ++ sL b = sL (a ++ b) := by
  show (⟨_⟩ : Str) = ⟨_⟩
  congr 1
  simp [sL]
theorem az_is : AZ = sL ((List.range 26).map (97 + ·)) := by decide +kernel
theorem gAdd_L {a b : List Nat} (h : a.length + b.length ≤ 1000000) : gAdd (dL a) (dL b) = some (.val (dL (a ++ b))) := by
  show (if (sL a).length + (sL b).length ≤ sizeLine then some (Out.val (PyData.str (sL a ++ sL b))) else none) = _
  rw [sL_len, sL_len, sizeLine_eq, if_pos (by omega), sL_app]
  rfl
theorem gLen_L {a : List Nat} (h : a.length ≤ 1000000) : gLen [dL a] = some (.val (.int a.length)) := by
  show (if (sL a).length ≤ sizeLine then some (Out.val (PyData.int (sL a).length)) else none) = _
  rw [sL_len, sizeLine_eq, if_pos (by omega)]
theorem cutS_L (a : List Nat) (lo hi : Option Int) : cutS (sL a) lo hi = sL ((a.drop (HT.sIx a.length 0 lo)).take (HT.sIx a.length a.length hi - HT.sIx a.length 0 lo)) := by
  unfold cutS
  rw [sL_list, sL_len]
  rfl
theorem gSl_L (a : List Nat) (h : a.length ≤ 1000000) (lo hi : Option Int) : gSl (dL a) lo hi = some (.val (dL ((a.drop (HT.sIx a.length 0 lo)).take (HT.sIx a.length a.length hi - HT.sIx a.length 0 lo)))) := by
  show (if (sL a).length ≤ sizeLine then some (Out.val (PyData.str (cutS (sL a) lo hi))) else none) = _
  rw [sL_len, sizeLine_eq, if_pos (by omega), cutS_L]
  rfl
theorem gSl_to {a : List Nat} (h : a.length ≤ 1000000) {p : Int} (h0 : 0 ≤ p) : gSl (dL a) none (some p) = some (.val (dL (a.take p.toNat))) := by
  rw [gSl_L a h]
  have e : HT.sIx a.length a.length (some p) = min p.toNat a.length := by
    show (if p < 0 then _ else _) = _
    rw [if_neg (by omega)]
  rw [e, HT.sIx_none, List.drop_zero, Nat.sub_zero]
  congr 3
  by_cases q : p.toNat ≤ a.length
  · rw [Nat.min_eq_left q]
  · rw [Nat.min_eq_right (by omega), List.take_length, List.take_of_length_le (by omega)]
theorem gSl_from {a : List Nat} (h : a.length ≤ 1000000) {p : Int} (h0 : 0 ≤ p) : gSl (dL a) (some p) none = some (.val (dL (a.drop p.toNat))) := by
  rw [gSl_L a h]
  have e : HT.sIx a.length 0 (some p) = min p.toNat a.length := by
    show (if p < 0 then _ else _) = _
    rw [if_neg (by omega)]
  rw [e, HT.sIx_none]
  congr 3
  by_cases q : p.toNat ≤ a.length
  · rw [Nat.min_eq_left q, List.take_of_length_le (by rw [List.length_drop]; omega)]
  · rw [Nat.min_eq_right (by omega), List.drop_of_length_le (by omega), List.drop_of_length_le (by omega)]
    simp
theorem gIx_L {a : List Nat} (h : a.length ≤ 1000000) {k : Int} (h0 : 0 ≤ k) {c : Nat} (hc : a[k.toNat]? = some c) : gIx (dL a) (.int k) = some (.val (dL [c])) := by
  have hl : k.toNat < a.length := by
    rcases Nat.lt_or_ge k.toNat a.length with q | q
    · exact q
    · rw [List.getElem?_eq_none q] at hc; cases hc
  show (if (sL a).length ≤ sizeLine then (atI (sL a).cps.toList k).map _ else none) = _
  rw [sL_len, sizeLine_eq, if_pos (by omega), sL_list]
  unfold L2.atI
  rw [ixN_lt h0 (by omega)]
  show (a[k.toNat]?).map _ = _
  rw [hc]
  rfl
theorem gIx_AZ {k : Int} (h0 : 0 ≤ k) (h1 : k < 26) : gIx (.str AZ) (.int k) = some (.val (dL [97 + k.toNat])) := by
  have e : (PyData.str AZ) = dL ((List.range 26).map (97 + ·)) := by rw [az_is]; rfl
  rw [e]
  refine gIx_L (by simp) h0 ?_
  rw [List.getElem?_map, List.getElem?_range (by omega)]
  rfl
theorem join_L : ∀ cs : List Nat, Str.join "" (cs.map fun c => sL [c]) = sL cs
  | [] => by decide +kernel
  | [c] => rfl
  | c :: d :: r => by
    have ih := join_L (d :: r)
    have e : Str.join "" (sL [c] :: sL [d] :: r.map fun c => sL [c]) = sL [c] ++ "" ++ Str.join "" (sL [d] :: r.map fun c => sL [c]) := rfl
    have e0 : ("" : Str) = sL [] := by decide +kernel
    rw [List.map_cons, List.map_cons, e]
    rw [List.map_cons] at ih
    rw [ih, e0, sL_app, sL_app]
    rfl
theorem strsD_L : ∀ cs : List Nat, strsD (cs.map fun c => dL [c]) = some (cs.map fun c => sL [c])
  | [] => rfl
  | c :: r => by
    show (strsD (r.map fun c => dL [c])).map _ = _
    rw [strsD_L r]; rfl
theorem gJoin_L {cs : List Nat} (h : cs.length ≤ 1000) : gJoin (.str "") [.list (cs.map fun c => dL [c])] = some (.val (dL cs)) := by
  show (strsD _).bind _ = _
  rw [strsD_L]
  have h0 : ("" : Str).length = 0 := by decide +kernel
  have hs : ((cs.map fun c => sL [c]).map (·.length)).sum = cs.length := by
    induction cs with
    | nil => rfl
    | cons c r ih => rw [List.map_cons, List.map_cons, List.sum_cons, ih (by rw [List.length_cons] at h; omega), sL_len, List.length_cons]; simp; omega
  show (if ((cs.map fun c => sL [c]).map (·.length)).sum + (cs.map fun c => sL [c]).length * ("" : Str).length ≤ 16777216 then _ else none) = _
  rw [hs, h0, if_pos (by omega)]
  have e : Txt.join "" (cs.map fun c => sL [c]) = Str.join "" (cs.map fun c => sL [c]) := StrLaws.glued_eq_join _ _
  rw [e, join_L]
  rfl
/-- a name -/
structure Gn (l : List Nat) : Prop where
  p : 1 ≤ l.length
  u : l.length ≤ 8
  c : ∀ x ∈ l, 97 ≤ x ∧ x ≤ 122
theorem Gn.sh {l : List Nat} (h : Gn l) : Sh 8 (sL l) := ⟨asc_iff.mpr fun c hc => by rw [sL_list] at hc; have := h.c c hc; omega, by rw [sL_len]; exact h.u⟩
theorem Gn.tx {l : List Nat} (h : Gn l) : Tx 20 (dL l) := ⟨_, rfl, h.sh.mono (by omega)⟩
theorem Gn.shd {l : List Nat} (h : Gn l) : SeqAt.shaped (dL l) = true := asc_sh h.sh.a
theorem Gn.name {l : List Nat} (h : Gn l) : pName (dL l) = true := by
  show (decide (1 ≤ (sL l).length) && (decide ((sL l).length ≤ 8) && (sL l).cps.toList.all fun c => decide (c ∈ AZ.cps.toList))) = true
  rw [sL_len, sL_list, decide_eq_true h.p, decide_eq_true h.u, Bool.true_and, Bool.true_and, List.all_eq_true]
  intro c hc
  have := h.c c hc
  rw [decide_eq_true_iff, az_is, sL_list, List.mem_map]
  exact ⟨c - 97, List.mem_range.mpr (by omega), by omega⟩
theorem eqv_str (y z : Str) : PyData.eqv (.str y) (.str z) = (y == z) := by simp [PyData.eqv]
theorem eqv_L (a b : List Nat) : PyData.eqv (dL a) (dL b) = decide (a = b) := by
  have : PyData.eqv (dL a) (dL b) = (sL a == sL b) := eqv_str (sL a) (sL b)
  rw [this, Bool.eq_iff_iff, beq_iff_eq, decide_eq_true_iff]
  exact ⟨sL_inj, fun h => by rw [h]⟩
theorem any_L (ls : List (List Nat)) (b : List Nat) : ((ls.map dL).any fun z => PyData.eqv z (dL b)) = decide (b ∈ ls) := by
  induction ls with
  | nil => simp
  | cons a r ih =>
    rw [List.map_cons, List.any_cons, ih, eqv_L, Bool.eq_iff_iff, Bool.or_eq_true, decide_eq_true_iff, decide_eq_true_iff, decide_eq_true_iff, List.mem_cons]
    exact ⟨fun h => h.imp Eq.symm id, fun h => h.imp Eq.symm id⟩

/-! ### the law's names -/
def WD : List (List Nat) := [[116, 97, 98, 108, 101], [114, 111, 119], [109, 97, 110, 121], [115, 116, 111, 114, 101], [111, 108, 100], [110, 101, 119], [112, 117, 116], [110, 111, 110, 101], [116, 105, 101], [100, 114, 111, 112], [115, 101, 116], [100, 111], [116, 111]]
theorem sm_is : SM = WD.map dL := by
  have h0 : ("table" : Str) = sL [116, 97, 98, 108, 101] := by decide +kernel
  have h1 : ("row" : Str) = sL [114, 111, 119] := by decide +kernel
  have h2 : ("many" : Str) = sL [109, 97, 110, 121] := by decide +kernel
  have h3 : ("store" : Str) = sL [115, 116, 111, 114, 101] := by decide +kernel
  have h4 : ("old" : Str) = sL [111, 108, 100] := by decide +kernel
  have h5 : ("new" : Str) = sL [110, 101, 119] := by decide +kernel
  have h6 : ("put" : Str) = sL [112, 117, 116] := by decide +kernel
  have h7 : ("none" : Str) = sL [110, 111, 110, 101] := by decide +kernel
  have h8 : ("tie" : Str) = sL [116, 105, 101] := by decide +kernel
  have h9 : ("drop" : Str) = sL [100, 114, 111, 112] := by decide +kernel
  have h10 : ("set" : Str) = sL [115, 101, 116] := by decide +kernel
  have h11 : ("do" : Str) = sL [100, 111] := by decide +kernel
  have h12 : ("to" : Str) = sL [116, 111] := by decide +kernel
  unfold SM
  rw [h0, h1, h2, h3, h4, h5, h6, h7, h8, h9, h10, h11, h12]
  rfl
theorem wd_good : ∀ l ∈ WD, Gn l := by
  intro l hl
  have h : ∀ l ∈ WD, 1 ≤ l.length ∧ l.length ≤ 8 ∧ ∀ c ∈ l, 97 ≤ c ∧ c ≤ 122 := by decide +kernel
  exact ⟨(h l hl).1, (h l hl).2.1, (h l hl).2.2⟩
def nmK (l : List Nat) (p : Nat) (a s h : Int) (k : Nat) : List Nat := l.take p ++ [97 + ((a + s * k) % 26).toNat] ++ (if h = 0 then l.drop p else (l.drop p).take ((k : Int) % 3).toNat)
theorem nmK_good {l : List Nat} {p : Nat} {a s h : Int} {k : Nat} (hl : l.length ≤ 7) (hc : ∀ c ∈ l, 97 ≤ c ∧ c ≤ 122) : Gn (nmK l p a s h k) := by
  have r : ∃ r, (if h = 0 then l.drop p else (l.drop p).take ((k : Int) % 3).toNat) = r ∧ r.length ≤ l.length - p ∧ ∀ c ∈ r, c ∈ l := by
    refine ⟨_, rfl, ?_, ?_⟩
    · split
      · rw [List.length_drop]; omega
      · rw [List.length_take, List.length_drop]; omega
    · intro c hc
      split at hc
      · exact List.mem_of_mem_drop hc
      · exact List.mem_of_mem_drop (List.mem_of_mem_take hc)
  obtain ⟨r, er, r1, r2⟩ := r
  unfold nmK
  rw [er]
  refine ⟨by simp; omega, ?_, ?_⟩
  · rw [List.length_append, List.length_append, List.length_take, List.length_singleton]
    by_cases q : p ≤ l.length
    · rw [Nat.min_eq_left q]; omega
    · rw [Nat.min_eq_right (by omega)]; omega
  · intro c hx
    rcases List.mem_append.mp hx with hx | hx
    · rcases List.mem_append.mp hx with hx | hx
      · exact hc c (List.mem_of_mem_take hx)
      · rw [List.mem_singleton.mp hx]
        have := Int.emod_nonneg (a + s * k) (by omega : (26 : Int) ≠ 0)
        have := Int.emod_lt_of_pos (a + s * k) (by omega : (0 : Int) < 26)
        omega
    · exact hc c (r2 c hx)
theorem nmK_inj {l : List Nat} {p : Nat} {a s h : Int} {i j : Nat} (hp : p ≤ l.length) (hs : s = 3 ∨ s = 5 ∨ s = 25) (hi : i < 26) (hj : j < 26) (e : nmK l p a s h i = nmK l p a s h j) : i = j := by
  have g : ∀ k, (nmK l p a s h k)[p]? = some (97 + ((a + s * k) % 26).toNat) := fun k => by
    unfold nmK
    rw [List.append_assoc, List.getElem?_append_right (by rw [List.length_take]; omega), List.length_take, Nat.min_eq_left hp, Nat.sub_self]
    rfl
  have e1 := g i
  rw [e, g j] at e1
  have e2 : ((a + s * j) % 26).toNat = ((a + s * i) % 26).toNat := by
    have := Option.some.inj e1
    omega
  rcases hs with rfl | rfl | rfl <;> omega
theorem range_set {α : Type} (g : Nat → α) (m i : Nat) (w : α) : ((List.range m).map g).set i w = (List.range m).map fun j => if j = i then w else g j := by
  apply List.ext_getElem?
  intro k
  rw [List.getElem?_set, List.getElem?_map, List.getElem?_map, List.length_map, List.length_range]
  by_cases hk : k < m
  · rw [List.getElem?_range hk]
    by_cases hik : i = k
    · subst hik
      simp [hk]
    · have : ¬ k = i := fun h => hik h.symm
      simp [hik, this]
  · rw [List.getElem?_eq_none (by simp; omega)]
    by_cases hik : i = k
    · subst hik
      simp [hk]
    · simp [hik]
end M5

namespace M5
open PySem PySem.Spec L2 M3 M4
open PyProof.Rows hiding St
def Na1 : Sm := (sUnp (fE (oE (mTup (dsCons (fE (oE (mC (.str "abcdefghijklmnopqrstuvwxyz")))) (dsCons (fE (oE (mCall 2 F_law_take (msCons (oE (mVar 0)) (msCons (oE (mC (.int 26))) msNil))))) (dsCons (fE (oE (mCall 2 F_law_take (msCons (oE (mVar 0)) (msCons (oE (mC (.int 4))) msNil))))) dsNil)))))) (.tp [(.nm 2), (.nm 3), (.nm 4)]))
def Na2 : Sm := (sSet 5 (mBM gJoin (oE (mC (.str ""))) (msCons (oE (mLc (mRng1 (msCons (oE (mCall 2 F_law_take (msCons (oE (mVar 0)) (msCons (oE (mC (.int 8))) msNil)))) msNil)) (.nm 6) [6] mYes (fE (oE (mOp gIx (oE (mVar 2)) (oE (mCall 2 F_law_take (msCons (oE (mVar 0)) (msCons (oE (mC (.int 26))) msNil))))))))) msNil)))
def Na3 : Sm := (sPar [7, 8, 9] (msCons (mCall 2 F_law_take (msCons (oE (mVar 0)) (msCons (oE (mOp gAdd (oE (mCallB gLen (msCons (oE (mVar 5)) msNil))) (oE (mC (.int 1))))) msNil))) (msCons (mOp gIx (oE (mLst (dsCons (fE (oE (mC (.int 3)))) (dsCons (fE (oE (mC (.int 5)))) (dsCons (fE (oE (mC (.int 25)))) dsNil))))) (oE (mCall 2 F_law_take (msCons (oE (mVar 0)) (msCons (oE (mC (.int 3))) msNil))))) (msCons (mCall 2 F_law_take (msCons (oE (mVar 0)) (msCons (oE (mC (.int 2))) msNil))) msNil))))
def Na7 : Sm := (sFor (mRng1 (msCons (oE (mOp gMul (oE (mCallB gMin (msCons (oE (mVar 1)) (msCons (oE (mC (.int 13))) msNil)))) (oE (mCallB gInt (msCons (oE (mOp (bo gEq) (oE (mVar 4)) (oE (mC (.int 0))))) msNil))))) msNil)) (.nm 12) (sSeq (sSet 15 (mOp gIx (oE (mVar 11)) (oE (mOp gMod (oE (mOp gAdd (oE (mVar 3)) (oE (mVar 12)))) (oE (mC (.int 13)))))))
    (sIf (mAnd (mBl (mOp (bo gNotIn) (oE (mVar 15)) (oE (mVar 10)))) (mBl (mOp (bo gEq) (oE (mCall 2 F_law_take (msCons (oE (mVar 0)) (msCons (oE (mC (.int 2))) msNil)))) (oE (mC (.int 0)))))) (sSetItem 14 (oE (mVar 12)) (fE (oE (mVar 15)))) sNext)))
theorem B_names_is : B_law_names = (sSeq Na1 (sSeq Na2 (sSeq Na3 (sSeq Na4 (sSeq Na5 (sSeq Na6 (sSeq Na7 Na8))))))) := rfl
def Lb : Sm := (sSeq (sSet 15 (mOp gIx (oE (mVar 11)) (oE (mOp gMod (oE (mOp gAdd (oE (mVar 3)) (oE (mVar 12)))) (oE (mC (.int 13)))))))
    (sIf (mAnd (mBl (mOp (bo gNotIn) (oE (mVar 15)) (oE (mVar 10)))) (mBl (mOp (bo gEq) (oE (mCall 2 F_law_take (msCons (oE (mVar 0)) (msCons (oE (mC (.int 2))) msNil)))) (oE (mC (.int 0)))))) (sSetItem 14 (oE (mVar 12)) (fE (oE (mVar 15)))) sNext))
theorem na1 (cs : List Int) (t m : Int) (hc : cs ≠ []) (ht : 0 ≤ t) (ht2 : t < 900000) : ∃ cs' a w, cs' ≠ [] ∧ 0 ≤ a ∧ a < 26 ∧ 0 ≤ w ∧ w < 4 ∧
    Na1 [sT cs t, fI m, none, none, none, none, none, none, none, none, none, none, none, none, none, none] = .nx [sT cs' (t + 2), fI m, some (.fro (.str AZ)), fI a, fI w, none, none, none, none, none, none, none, none, none, none, none] := by
  obtain ⟨a, cs1, a0, a1, c1, e1⟩ := take_ok cs t 26 hc ht (by omega) (by omega) (by omega)
  obtain ⟨w, cs2, w0, w1, c2, e2⟩ := take_ok cs1 (t + 1) 4 c1 (by omega) (by omega) (by omega) (by omega)
  have h3 : (3 : Nat) ≤ sizeLine := by rw [sizeLine_eq]; omega
  have et : t + 1 + 1 = t + 2 := by omega
  rw [et] at e2
  exact ⟨cs2, a, w, c2, a0, a1, w0, w1, by simp [Na1, e1, e2, h3]⟩
theorem na2 (cs : List Int) (t m a w : Int) (hc : cs ≠ []) (ht : 0 ≤ t) (ht2 : t < 900000) : ∃ cs' t' l, cs' ≠ [] ∧ t ≤ t' ∧ t' ≤ t + 8 ∧ l.length ≤ 7 ∧ (∀ c ∈ l, 97 ≤ c ∧ c ≤ 122) ∧
    Na2 [sT cs t, fI m, some (.fro (.str AZ)), fI a, fI w, none, none, none, none, none, none, none, none, none, none, none] = .nx [sT cs' t', fI m, some (.fro (.str AZ)), fI a, fI w, some (.fro (dL l)), none, none, none, none, none, none, none, none, none, none] := by
  obtain ⟨n, cs1, n0, n1, c1, e1⟩ := take_ok cs t 8 hc ht (by omega) (by omega) (by omega)
  have hr : (rngD 0 n.toNat).length = n.toNat := by unfold rngD; rw [List.length_map, List.length_range]
  have hz : n.toNat ≤ sizeLine := by rw [sizeLine_eq]; omega
  obtain ⟨out, ε', e2, ⟨csf, qs, hf, rfl, h1, rfl⟩, hl⟩ := lc_inv (p := .nm 6) (vs := [6]) (m := fE (oE (mOp gIx (oE (mVar 2)) (oE (mCall 2 F_law_take (msCons (oE (mVar 0)) (msCons (oE (mC (.int 26))) msNil)))))))
    (fun acc ε => ∃ cs' qs, cs' ≠ [] ∧ acc = qs.map (fun c => dL [c]) ∧ (∀ c ∈ qs, 97 ≤ c ∧ c ≤ 122) ∧ ε = [sT cs' (t + 1 + (acc.length : Int)), fI m, some (.fro (.str AZ)), fI a, fI w, none, none, none, none, none, none, none, none, none, none, none])
    (N := n.toNat) hz (ds := rngD 0 n.toNat) (acc := []) (ε := [sT cs1 (t + 1), fI m, some (.fro (.str AZ)), fI a, fI w, none, none, none, none, none, none, none, none, none, none, none])
    ⟨cs1, [], c1, rfl, (fun _ h => by cases h), by simp⟩ (fun d hd acc ε hI hacc => by
      obtain ⟨cs2, qs, c2, rfl, hx, rfl⟩ := hI
      obtain ⟨q, cs3, q0, q1, c3, e3⟩ := take_ok cs2 (t + 1 + ((qs.map fun c => dL [c]).length : Int)) 26 c2 (by omega) (by omega) (by omega) (by omega)
      have ey := gIx_AZ q0 q1
      refine ⟨_, _, _, by simp; rfl, by simp at e3; simp [e3, ey]; exact ⟨rfl, rfl⟩, cs3, qs ++ [97 + q.toNat], c3, by simp, ?_, ?_⟩
      · intro c hc
        rcases List.mem_append.mp hc with hc | hc
        · exact hx c hc
        · rw [List.mem_singleton.mp hc]
          omega
      · simp
        omega) (by rw [hr]; simp)
  have hql : qs.length = n.toNat := by rw [List.length_map, hr] at hl; simpa using hl
  have ez := gJoin_L (cs := qs) (by omega)
  refine ⟨csf, t + 1 + (qs.length : Int), qs, hf, by omega, by rw [hql]; omega, by omega, h1, ?_⟩
  have hrn : -4611686018427387904 ≤ n ∧ n < 4611686018427387904 := by omega
  rw [List.length_map] at e2
  simp [Na2, e1, hrn, e2, ez]
theorem three_le : (3 : Nat) ≤ sizeLine := by rw [sizeLine_eq]; omega
theorem na3 (cs : List Int) (t m a w : Int) (l : List Nat) (hz : l.length ≤ 7) (hc : cs ≠ []) (ht : 0 ≤ t) (ht2 : t < 900000) : ∃ cs' p s h, cs' ≠ [] ∧ (0 ≤ p ∧ p ≤ (l.length : Int)) ∧ (s = 3 ∨ s = 5 ∨ s = 25) ∧ (h = 0 ∨ h = 1) ∧
    Na3 [sT cs t, fI m, some (.fro (.str AZ)), fI a, fI w, some (.fro (dL l)), none, none, none, none, none, none, none, none, none, none] = .nx [sT cs' (t + 3), fI m, some (.fro (.str AZ)), fI a, fI w, some (.fro (dL l)), none, fI p, fI s, fI h, none, none, none, none, none, none] := by
  obtain ⟨p, cs1, p0, p1, c1, e1⟩ := take_ok cs t ((l.length : Int) + 1) hc ht (by omega) (by omega) (by omega)
  obtain ⟨j, cs2, j0, j1, c2, e2⟩ := take_ok cs1 (t + 1) 3 c1 (by omega) (by omega) (by omega) (by omega)
  obtain ⟨h, cs3, h0, h1, c3, e3⟩ := take_ok cs2 (t + 1 + 1) 2 c2 (by omega) (by omega) (by omega) (by omega)
  have et : t + 1 + 1 + 1 = t + 3 := by omega
  rw [et] at e3
  have gl := gLen_L (a := l) (by omega)
  have hj : ∃ s : Int, (s = 3 ∨ s = 5 ∨ s = 25) ∧ gIx (.list [.int 3, .int 5, .int 25]) (.int j) = some (.val (.int s)) := by
    have : j = 0 ∨ j = 1 ∨ j = 2 := by omega
    rcases this with rfl | rfl | rfl
    · exact ⟨3, .inl rfl, by simp [gIx, atI, ixN]⟩
    · exact ⟨5, .inr (.inl rfl), by simp [gIx, atI, ixN]⟩
    · exact ⟨25, .inr (.inr rfl), by simp [gIx, atI, ixN]⟩
  obtain ⟨s, hs, es⟩ := hj
  exact ⟨cs3, p, s, h, c3, ⟨p0, by omega⟩, hs, by omega, by simp [Na3, gl, gAdd_i, e1, e2, es, e3, three_le]⟩
theorem na5 (a0 : Option SV) (m a w p s h : Int) (l : List Nat) (hz : l.length ≤ 7) (hm : 0 ≤ m) (hm2 : m ≤ 100) (ha : 0 ≤ a) (ha2 : a < 26) (hp : 0 ≤ p ∧ p ≤ (l.length : Int)) (hs : s = 3 ∨ s = 5 ∨ s = 25) (hh : h = 0 ∨ h = 1) :
    ∃ x y,
    Na5 [a0, fI m, some (.fro (.str AZ)), fI a, fI w, some (.fro (dL l)), none, fI p, fI s, fI h, some (.own (.lst [])), some (.own (.lst SM)), none, none, none, none] = .nx [a0, fI m, some (.fro (.str AZ)), fI a, fI w, some (.fro (dL l)), none, fI p, fI s, fI h, some (.own (.lst ((List.range m.toNat).map fun k => dL (nmK l p.toNat a s h k)))), some (.own (.lst SM)), x, y, none, none] := by
  have hr : (rngD 0 m.toNat).length = m.toNat := by unfold rngD; rw [List.length_map, List.length_range]
  have hrn : -4611686018427387904 ≤ m ∧ m < 4611686018427387904 := by omega
  obtain ⟨ε', e1, x, y, rfl⟩ := loop_nx (p := .nm 12) (body := La) (fun i ε => ∃ x y, ε = [a0, fI m, some (.fro (.str AZ)), fI a, fI w, some (.fro (dL l)), none, fI p, fI s, fI h, some (.own (.lst ((List.range i).map fun k => dL (nmK l p.toNat a s h k)))), some (.own (.lst SM)), x, y, none, none])
    (ds := rngD 0 m.toNat) (k := 0) (ε := [a0, fI m, some (.fro (.str AZ)), fI a, fI w, some (.fro (dL l)), none, fI p, fI s, fI h, some (.own (.lst [])), some (.own (.lst SM)), none, none, none, none])
    ⟨none, none, rfl⟩ (fun i d ε hd hI => by
      obtain ⟨rfl, hi⟩ := rng_get hd
      obtain ⟨x, y, rfl⟩ := hI
      have q1 : gMul (.int s) (.int (i : Int)) = some (.val (.int (s * i))) := gMul_i (by omega)
      have q2 : gMod (.int (a + s * i)) (.int 26) = some (.val (.int ((a + s * i) % 26))) := gMod_i (by omega)
      have q3 : gMod (.int (i : Int)) (.int 3) = some (.val (.int ((i : Int) % 3))) := gMod_i (by omega)
      have ec := gIx_AZ (Int.emod_nonneg (a + s * i) (by omega : (26 : Int) ≠ 0)) (Int.emod_lt_of_pos _ (by omega))
      have g1 := gSl_to (a := l) (by omega) hp.1
      have g2 := gSl_from (a := l) (by omega) hp.1
      have g3 := gSl_to (a := l.drop p.toNat) (by rw [List.length_drop]; omega) (Int.emod_nonneg (i : Int) (by omega : (3 : Int) ≠ 0))
      have g4 := gAdd_L (a := l.take p.toNat) (b := [97 + ((a + s * i) % 26).toNat]) (by rw [List.length_take, List.length_singleton]; omega)
      have hsz : i < sizeLine := by rw [sizeLine_eq]; omega
      refine ⟨_, _, by simp; rfl, ?_, fI i, some (.fro (dL (l.take p.toNat ++ [97 + ((a + s * i) % 26).toNat]))), rfl⟩
      rw [Nat.zero_add, List.range_succ, List.map_append, List.map_singleton]
      rcases hh with rfl | rfl
      · have g5 := gAdd_L (a := l.take p.toNat ++ [97 + ((a + s * i) % 26).toNat]) (b := l.drop p.toNat) (by simp; omega)
        have en : nmK l p.toNat a s 0 i = l.take p.toNat ++ [97 + ((a + s * i) % 26).toNat] ++ l.drop p.toNat := by unfold nmK; rw [if_pos rfl]
        rw [en]
        simp only [List.append_assoc] at g5 ⊢
        simp only [La, x_seq, x_set]
        simp [g1, g2, g3, g4, q1, q2, q3, gAdd_i, ec, two_le, gIx2_0, hsz, -List.append_assoc]
        simp only [List.singleton_append, List.cons_append, List.nil_append] at g5 ⊢
        simp [g5, hsz]
      · have g5 := gAdd_L (a := l.take p.toNat ++ [97 + ((a + s * i) % 26).toNat]) (b := (l.drop p.toNat).take ((i : Int) % 3).toNat) (by simp; omega)
        have en : nmK l p.toNat a s 1 i = l.take p.toNat ++ [97 + ((a + s * i) % 26).toNat] ++ (l.drop p.toNat).take ((i : Int) % 3).toNat := by unfold nmK; rw [if_neg (by omega)]
        rw [en]
        simp only [List.append_assoc] at g5 ⊢
        simp only [La, x_seq, x_set]
        simp [g1, g2, g3, g4, q1, q2, q3, gAdd_i, ec, two_le, gIx2_1, hsz, -List.append_assoc]
        simp only [List.singleton_append, List.cons_append, List.nil_append] at g5 ⊢
        simp [g5, hsz])
  rw [Nat.zero_add, hr] at *
  refine ⟨x, y, ?_⟩
  unfold La at e1
  simp [Na5, hrn, e1]
end M5

namespace M5
open PySem PySem.Spec L2 M3 M4
open PyProof.Rows hiding St
def wdK (a : Int) (j : Nat) : List Nat := WD.getD ((a + j) % 13).toNat []
theorem wd_inj : ∀ x < 13, ∀ y < 13, WD.getD x [] = WD.getD y [] → x = y := by decide +kernel
theorem wdK_inj {a : Int} {i j : Nat} (hi : i < 13) (hj : j < 13) (e : wdK a i = wdK a j) : i = j := by
  have := wd_inj _ (by omega) _ (by omega) e
  omega
theorem wdK_mem (a : Int) (j : Nat) : wdK a j ∈ WD := by
  have h : ∀ x < 13, WD.getD x [] ∈ WD := by decide +kernel
  exact h _ (by omega)
theorem gIx_Ls {ls : List (List Nat)} {k : Int} (h0 : 0 ≤ k) (h : k < ls.length) : gIx (.list (ls.map dL)) (.int k) = some (.val (dL (ls.getD k.toNat []))) := by
  show (L2.atI (ls.map dL) k).map _ = _
  unfold L2.atI
  rw [List.length_map, ixN_lt h0 h]
  show ((ls.map dL)[k.toNat]?).map _ = _
  have hk : k.toNat < ls.length := by omega
  rw [List.getElem?_map, List.getD_eq_getElem?_getD, List.getElem?_eq_getElem hk]
  rfl
theorem nms_L {ls : List (List Nat)} (h : ∀ l ∈ ls, Gn l) : Nms (ls.map dL) := fun x hx => by
  obtain ⟨l, hl, rfl⟩ := List.mem_map.mp hx
  exact ⟨_, rfl, (h l hl).shd⟩
theorem notin_L {ls : List (List Nat)} {w : List Nat} (h : ∀ l ∈ ls, Gn l) (hw : Gn w) : gNotIn (dL w) (.list (ls.map dL)) = some (!decide (w ∈ ls)) := by
  rw [notin_nms (nms_L h) hw.shd, any_L]
theorem na7 (cs : List Int) (t m a w : Int) (a2 a5 a6 a7 a8 a9 a12 a13 : Option SV) (g0 : Nat → List Nat) (hg : ∀ k, Gn (g0 k)) (hc : cs ≠ []) (ht : 0 ≤ t) (ht2 : t < 900000) (hm : 0 ≤ m) (hm2 : m ≤ 100) (ha : 0 ≤ a) (ha2 : a < 26) :
    ∃ cs' t' g x y, cs' ≠ [] ∧ t ≤ t' ∧ t' ≤ t + 100 ∧ (∀ j, g j = g0 j ∨ (j < 13 ∧ g j = wdK a j ∧ wdK a j ∉ (List.range m.toNat).map g0)) ∧
    Na7 [sT cs t, fI m, a2, fI a, fI w, a5, a6, a7, a8, a9, some (.own (.lst (((List.range m.toNat).map g0).map dL))), some (.own (.lst SM)), a12, a13, some (.own (.lst (((List.range m.toNat).map g0).map dL))), none] = .nx [sT cs' t', fI m, a2, fI a, fI w, a5, a6, a7, a8, a9, some (.own (.lst (((List.range m.toNat).map g0).map dL))), some (.own (.lst SM)), x, a13, some (.own (.lst (((List.range m.toNat).map g).map dL))), y] := by
  obtain ⟨n, hn, e0⟩ : ∃ n : Int, (0 ≤ n ∧ n ≤ m ∧ n ≤ 13) ∧ gMul (.int (if 13 < m then 13 else m)) (.int (if w = 0 then 1 else 0)) = some (.val (.int n)) := by
    refine ⟨(if 13 < m then 13 else m) * (if w = 0 then 1 else 0), ?_, gMul_i (by split <;> omega)⟩
    split <;> split <;> omega
  have hr : (rngD 0 n.toNat).length = n.toNat := by unfold rngD; rw [List.length_map, List.length_range]
  have hrn : -4611686018427387904 ≤ n ∧ n < 4611686018427387904 := by omega
  have hpg : ∀ l ∈ (List.range m.toNat).map g0, Gn l := fun l hl => by
    obtain ⟨k, _, rfl⟩ := List.mem_map.mp hl
    exact hg k
  obtain ⟨ε', e1, cs', t', g, x, y, k1, k2, k3, k4, rfl⟩ := loop_nx (p := .nm 12) (body := Lb) (fun i ε => ∃ cs' t' g x y, cs' ≠ [] ∧ t ≤ t' ∧ t' ≤ t + (i : Int) ∧ (∀ j, g j = g0 j ∨ (j < 13 ∧ g j = wdK a j ∧ wdK a j ∉ (List.range m.toNat).map g0)) ∧
      ε = [sT cs' t', fI m, a2, fI a, fI w, a5, a6, a7, a8, a9, some (.own (.lst (((List.range m.toNat).map g0).map dL))), some (.own (.lst SM)), x, a13, some (.own (.lst (((List.range m.toNat).map g).map dL))), y])
    (ds := rngD 0 n.toNat) (k := 0) (ε := [sT cs t, fI m, a2, fI a, fI w, a5, a6, a7, a8, a9, some (.own (.lst (((List.range m.toNat).map g0).map dL))), some (.own (.lst SM)), a12, a13, some (.own (.lst (((List.range m.toNat).map g0).map dL))), none])
    ⟨cs, t, g0, a12, none, hc, by omega, by omega, fun _ => .inl rfl, rfl⟩ (fun i d ε hd hI => by
      obtain ⟨rfl, hi⟩ := rng_get hd
      obtain ⟨cs', t', g, x, y, k1, k2, k3, k4, rfl⟩ := hI
      have q2 : gMod (.int (a + i)) (.int 13) = some (.val (.int ((a + i) % 13))) := gMod_i (by omega)
      have ewd : gIx (.list SM) (.int ((a + i) % 13)) = some (.val (dL (wdK a i))) := by
        rw [sm_is]
        exact gIx_Ls (Int.emod_nonneg (a + i) (by omega : (13 : Int) ≠ 0)) (by show _ < (13 : Int); exact Int.emod_lt_of_pos _ (by omega))
      have g1 := notin_L hpg (wd_good _ (wdK_mem a i))
      by_cases hb : wdK a i ∈ (List.range m.toNat).map g0
      · rw [decide_eq_true hb] at g1
        exact ⟨_, _, by simp [-List.map_map]; rfl, by simp only [Lb, x_seq, x_set]; simp [gAdd_i, q2, ewd, g1, -List.map_map], cs', t', g, fI i, some (.fro (dL (wdK a i))), k1, k2, by omega, k4, rfl⟩
      · rw [decide_eq_false hb] at g1
        obtain ⟨q, cs3, q0, q1, c3, e3⟩ := take_ok cs' t' 2 k1 (by omega) (by omega) (by omega) (by omega)
        by_cases hq : q = 0
        · subst hq
          have hix : ixN m.toNat (i : Int) = some i := by rw [ixN_lt (by omega) (by omega)]; simp
          have es : ((((List.range m.toNat).map g).map dL).set i (dL (wdK a i))) = (((List.range m.toNat).map fun j => if j = i then wdK a i else g j).map dL) := by
            rw [← range_set, List.map_set]
          refine ⟨_, _, by simp [-List.map_map]; rfl, by rw [← es]; simp only [Lb, x_seq, x_set]; simp [gAdd_i, q2, ewd, g1, e3, gEq_int, hix, -List.map_map], cs3, t' + 1, fun j => if j = i then wdK a i else g j, fI i, some (.fro (dL (wdK a i))), c3, by omega, by omega, ?_, rfl⟩
          intro j
          by_cases hj : j = i
          · subst hj
            exact .inr ⟨by omega, if_pos rfl, hb⟩
          · show (if j = i then _ else _) = _ ∨ _ ∧ (if j = i then _ else _) = _ ∧ _
            rw [if_neg hj]
            exact k4 j
        · have hq' : (q == 0) = false := by simpa using hq
          exact ⟨_, _, by simp [-List.map_map]; rfl, by simp only [Lb, x_seq, x_set]; simp [gAdd_i, q2, ewd, g1, e3, gEq_int, hq, -List.map_map], cs3, t' + 1, g, fI i, some (.fro (dL (wdK a i))), c3, by omega, by omega, k4, rfl⟩)
  rw [Nat.zero_add, hr] at k3
  refine ⟨cs', t', g, x, y, k1, k2, by omega, k4, ?_⟩
  unfold Lb at e1
  simp [Na7, gMin, gInt, gEq_int, e0, hrn, e1, -List.map_map]
theorem nodup_rng {α : Type} {m : Nat} {g : Nat → α} (h : ∀ i j, i < m → j < m → g i = g j → i = j) : ((List.range m).map g).Nodup := by
  unfold List.Nodup
  rw [List.pairwise_map]
  refine List.Pairwise.imp_of_mem ?_ List.pairwise_lt_range
  intro i j hi hj hij e
  have := h i j (List.mem_range.mp hi) (List.mem_range.mp hj) e
  omega
theorem names_ok (cs : List Int) (t m : Int) (hc : cs ≠ []) (ht : 0 ≤ t) (ht2 : t < 800000) (hm : 0 ≤ m) (hm2 : m ≤ 26) :
    ∃ (cs' : List Int) (t' : Int) (ls : List (List Nat)), cs' ≠ [] ∧ t ≤ t' ∧ t' ≤ t + 120 ∧ ls.length = m.toNat ∧ (∀ l ∈ ls, Gn l) ∧ ls.Nodup ∧ F_law_names [sT cs t, fI m] = .ok (.new (.lst (ls.map dL))) [sT cs' t', fI m] := by
  obtain ⟨cs1, a, w, c1, a0, a1, w0, w1, e1⟩ := na1 cs t m hc ht (by omega)
  obtain ⟨cs2, t2, l, c2, t20, t21, hl, hlc, e2⟩ := na2 cs1 (t + 2) m a w c1 (by omega) (by omega)
  obtain ⟨cs3, p, s, h, c3, hp, hs, hh, e3⟩ := na3 cs2 t2 m a w l hl c2 (by omega) (by omega)
  have e4 := na4 (sT cs3 (t2 + 3)) (fI m) (some (.fro (.str AZ))) (fI a) (fI w) (some (.fro (dL l))) none (fI p) (fI s) (fI h)
  obtain ⟨x, y, e5⟩ := na5 (sT cs3 (t2 + 3)) m a w p s h l hl hm (by omega) a0 a1 hp hs hh
  have em : ((List.range m.toNat).map fun k => dL (nmK l p.toNat a s h k)) = ((List.range m.toNat).map (nmK l p.toNat a s h)).map dL := by rw [List.map_map]; rfl
  rw [em] at e5
  have hg : ∀ k, Gn (nmK l p.toNat a s h k) := fun k => nmK_good hl hlc
  obtain ⟨cs7, t7, g, x7, y7, c7, t70, t71, p7, e7⟩ := na7 cs3 (t2 + 3) m a w (some (.fro (.str AZ))) (some (.fro (dL l))) none (fI p) (fI s) (fI h) x y (nmK l p.toNat a s h) hg c3 (by omega) (by omega) hm (by omega) a0 a1
  generalize hpl : ((List.range m.toNat).map (nmK l p.toNat a s h)).map dL = pl at e5 e7
  have e6 : Na6 [sT cs3 (t2 + 3), fI m, some (.fro (.str AZ)), fI a, fI w, some (.fro (dL l)), none, fI p, fI s, fI h, some (.own (.lst pl)), some (.own (.lst SM)), x, y, none, none] = .nx [sT cs3 (t2 + 3), fI m, some (.fro (.str AZ)), fI a, fI w, some (.fro (dL l)), none, fI p, fI s, fI h, some (.own (.lst pl)), some (.own (.lst SM)), x, y, some (.own (.lst pl)), none] := by
    simp [Na6, gList]
  refine ⟨cs7, t7, (List.range m.toNat).map g, c7, by omega, by omega, by simp, ?_, ?_, ?_⟩
  · intro q hq
    obtain ⟨k, _, rfl⟩ := List.mem_map.mp hq
    rcases p7 k with e | ⟨_, e, _⟩
    · rw [e]; exact hg k
    · rw [e]; exact wd_good _ (wdK_mem a k)
  · refine nodup_rng fun i j hi hj e => ?_
    have mem : ∀ k, k < m.toNat → nmK l p.toNat a s h k ∈ (List.range m.toNat).map (nmK l p.toNat a s h) := fun k hk => List.mem_map.mpr ⟨k, List.mem_range.mpr hk, rfl⟩
    rcases p7 i with e1 | ⟨i1, e1, n1⟩ <;> rcases p7 j with e2 | ⟨j1, e2, n2⟩
    · rw [e1, e2] at e
      exact nmK_inj (by omega) hs (by omega) (by omega) e
    · rw [e1, e2] at e
      exact absurd (e ▸ mem i hi) n2
    · rw [e1, e2] at e
      exact absurd (e.symm ▸ mem j hj) n1
    · rw [e1, e2] at e
      exact wdK_inj i1 j1 e
  · generalize ((List.range m.toNat).map g).map dL = fo at e7
    simp only [F_law_names, B_names_is, x_fnF, x_p0, x_p1, x_p2, x_seq]
    simp
    simp [e1, e2, e3, e4, e5, e6, e7, Na8]
end M5

namespace M5
open PySem PySem.Spec L2 M3 M4
open PyProof.Rows hiding St
/-! ### tables, typed -/
abbrev TC := List Nat × D
abbrev TT := List Nat × List TC
def colD (c : TC) : D := .tuple [dL c.1, c.2]
def tblD (t : TT) : D := .tuple [dL t.1, .tuple (t.2.map colD)]
structure GoodC (cols : List TC) : Prop where
  ne : cols ≠ []
  l : cols.length ≤ 5
  nd : (cols.map (·.1)).Nodup
  g : ∀ c ∈ cols, Gn c.1 ∧ Wd c.2
  h : ∀ c r, cols = c :: r → c.2 = .none
structure GoodT (ts : List TT) : Prop where
  nd : (ts.map (·.1)).Nodup
  g : ∀ t ∈ ts, Gn t.1 ∧ GoodC t.2
theorem col_cl {c : TC} (h : Gn c.1 ∧ Wd c.2) : Cl (colD c) := ⟨dL c.1, c.2, rfl, h.1.tx, h.2⟩
def Tb_1 : Sm := (sSet 3 (mLst dsNil))
def Tb_2 : Sm := (sFor (mIt (fE (oE (mCall 2 F_law_names (msCons (oE (mVar 0)) (msCons (oE (mVar 1)) msNil)))))) (.nm 4) (sSeq (sSet 5 (mLst dsNil))
    (sSeq (sFor (mIt (fE (oE (mCall 2 F_law_names (msCons (oE (mVar 0)) (msCons (oE (mOp gAdd (oE (mC (.int 1))) (oE (mCall 2 F_law_take (msCons (oE (mVar 0)) (msCons (oE (mVar 2)) msNil)))))) msNil)))))) (.nm 6) (sAppend 5 (fE (oE (mTup (dsCons (fE (oE (mVar 6))) (dsCons (fE (oE (mIfE (mBl (mOp (bo gNe) (oE (mVar 5)) (oE (mLst dsNil)))) (mCall 1 F_law_worth (msCons (oE (mVar 0)) msNil)) (mC .none)))) dsNil)))))))
    (sAppend 3 (fE (oE (mTup (dsCons (fE (oE (mVar 4))) (dsCons (fE (oE (mCallB gTuple (msCons (oE (mVar 5)) msNil)))) dsNil)))))))))
def Tb_3 : Sm := (sRet (mCallB gTuple (msCons (oE (mVar 3)) msNil)))
theorem B_law_tables_is : B_law_tables = (sSeq Tb_1 (sSeq Tb_2 Tb_3)) := rfl
def TLi : Sm := (sAppend 5 (fE (oE (mTup (dsCons (fE (oE (mVar 6))) (dsCons (fE (oE (mIfE (mBl (mOp (bo gNe) (oE (mVar 5)) (oE (mLst dsNil)))) (mCall 1 F_law_worth (msCons (oE (mVar 0)) msNil)) (mC .none)))) dsNil))))))
def TLo1 : Sm := (sSet 5 (mLst dsNil))
def TLo2 : Sm := (sFor (mIt (fE (oE (mCall 2 F_law_names (msCons (oE (mVar 0)) (msCons (oE (mOp gAdd (oE (mC (.int 1))) (oE (mCall 2 F_law_take (msCons (oE (mVar 0)) (msCons (oE (mVar 2)) msNil)))))) msNil)))))) (.nm 6) TLi)
def TLo3 : Sm := (sAppend 3 (fE (oE (mTup (dsCons (fE (oE (mVar 4))) (dsCons (fE (oE (mCallB gTuple (msCons (oE (mVar 5)) msNil)))) dsNil))))))
def TLo : Sm := sSeq TLo1 (sSeq TLo2 TLo3)
theorem Tb_2_is : Tb_2 = sFor (mIt (fE (oE (mCall 2 F_law_names (msCons (oE (mVar 0)) (msCons (oE (mVar 1)) msNil)))))) (.nm 4) TLo := rfl
theorem lt_get {α : Type} {l : List α} {i : Nat} {x : α} (h : l[i]? = some x) : i < l.length := by
  rcases Nat.lt_or_ge i l.length with q | q
  · exact q
  · rw [List.getElem?_eq_none q] at h; cases h
theorem get_map {α β : Type} {f : α → β} {l : List α} {i : Nat} {y : β} (h : (l.map f)[i]? = some y) : ∃ x, l[i]? = some x ∧ y = f x := by
  rw [List.getElem?_map] at h
  cases e : l[i]? with
  | none => rw [e] at h; cases h
  | some x => rw [e] at h; cases h; exact ⟨x, rfl, rfl⟩
theorem take_get {α : Type} {l : List α} {i : Nat} {x : α} (h : l[i]? = some x) : l.take (i + 1) = l.take i ++ [x] := by
  rw [List.take_add_one, h]; rfl
theorem tli_ok (t : Int) (a1 a2 a3 a4 a6 : Option SV) (ls : List (List Nat)) (cs : List Int) (hc : cs ≠ []) (ht : 0 ≤ t) (ht2 : t < 800000) (hd : ∀ l ∈ ls, Gn l) (hl : ls.length ≤ 100) :
    ∃ (cs' : List Int) (t' : Int) (cols : List TC) (x : Option SV), cs' ≠ [] ∧ t ≤ t' ∧ t' ≤ t + 300 ∧ cols.map (·.1) = ls ∧ (∀ c ∈ cols, Gn c.1 ∧ Wd c.2) ∧ (∀ c r, cols = c :: r → c.2 = PyData.none) ∧ sLoop (.nm 6) TLi (ls.map dL) [sT cs t, a1, a2, a3, a4, some (.own (.lst [])), a6] = .nx [sT cs' t', a1, a2, a3, a4, some (.own (.lst (cols.map colD))), x] := by
  obtain ⟨ε', e1, cs', t', cols, x, k1, k2, k3, k4, k5, k6, rfl⟩ := loop_nx (p := .nm 6) (body := TLi) (fun i ε => ∃ (cs' : List Int) (t' : Int) (cols : List TC) (x : Option SV), cs' ≠ [] ∧ t ≤ t' ∧ t' ≤ t + 3 * (i : Int) ∧ cols.map (·.1) = ls.take i ∧ (∀ c ∈ cols, Gn c.1 ∧ Wd c.2) ∧ (∀ (c : TC) r, cols = c :: r → c.2 = PyData.none) ∧
      ε = [sT cs' t', a1, a2, a3, a4, some (.own (.lst (cols.map colD))), x])
    (ds := ls.map dL) (k := 0) (ε := [sT cs t, a1, a2, a3, a4, some (.own (.lst [])), a6])
    ⟨cs, t, [], a6, hc, by omega, by omega, rfl, (fun _ h => by cases h), (fun _ _ h => by cases h), rfl⟩ (fun i d ε hi hI => by
      obtain ⟨cs', t', cols, x, k1, k2, k3, k4, k5, k6, rfl⟩ := hI
      obtain ⟨l, hil, rfl⟩ := get_map hi
      have hlt := lt_get hil
      have gl := hd l (List.mem_of_getElem? hil)
      rw [Nat.zero_add] at k4 k3
      have hlen : cols.length = i := by
        have := congrArg List.length k4
        rw [List.length_map, List.length_take] at this
        omega
      have g := gNe_cl (cl := cols.map colD) (fun c hc => by
        obtain ⟨c', h', rfl⟩ := List.mem_map.mp hc
        exact col_cl (k5 c' h'))
      have hs : cols.length < sizeLine := by rw [sizeLine_eq]; omega
      rw [Nat.zero_add]
      cases hcl : cols with
      | nil =>
        subst hcl
        have hs0 : 0 < sizeLine := by rw [sizeLine_eq]; omega
        refine ⟨_, _, by simp; rfl, by rw [List.map_nil] at g; simp [TLi, g, two_le, hs0, colD], cs', t', [(l, .none)], some (.fro (dL l)), k1, k2, by omega, ?_, ?_, ?_, rfl⟩
        · rw [take_get hil, ← k4]; rfl
        · intro c hc'
          rw [List.mem_singleton.mp hc']
          exact ⟨gl, .inl rfl⟩
        · intro c r h
          cases h; rfl
      | cons c0 cr =>
        rw [hcl] at g k4 k5 k6 hs
        obtain ⟨wv, cs2, t2, hw, c2, q1, q2, e2⟩ := worth_ok cs' t' k1 (by omega) (by omega)
        have hs1 : cr.length + 1 < sizeLine := by simpa using hs
        have em : (c0 :: cr ++ [(l, wv)]).map colD = colD c0 :: (cr.map colD ++ [.tuple [dL l, wv]]) := by simp [colD]
        refine ⟨_, _, by simp; rfl, by simp only [List.map_cons] at g ⊢; rw [em]; simp [TLi, g, two_le, e2, hs1], cs2, t2, c0 :: cr ++ [(l, wv)], some (.fro (dL l)), c2, by omega, by omega, ?_, ?_, ?_, rfl⟩
        · rw [take_get hil, ← k4, List.map_append]; rfl
        · intro c hc'
          rcases List.mem_append.mp hc' with hc' | hc'
          · exact k5 c hc'
          · rw [List.mem_singleton.mp hc']
            exact ⟨gl, hw⟩
        · intro c r h
          cases h
          exact k6 c0 cr rfl)
  rw [Nat.zero_add, List.length_map, List.take_length] at k4
  rw [Nat.zero_add, List.length_map] at k3
  exact ⟨cs', t', cols, x, k1, k2, by omega, k4, k5, k6, e1⟩
theorem tlo2_ok (t m wd : Int) (a3 a4 a6 : Option SV) (cs : List Int) (hc : cs ≠ []) (ht : 0 ≤ t) (ht2 : t < 700000) (hw : 1 ≤ wd) (hw2 : wd ≤ 5) :
    ∃ (cs' : List Int) (t' : Int) (cols : List TC) (x : Option SV), cs' ≠ [] ∧ t ≤ t' ∧ t' ≤ t + 421 ∧ GoodC cols ∧
      TLo2 [sT cs t, fI m, fI wd, a3, a4, some (.own (.lst [])), a6] = .nx [sT cs' t', fI m, fI wd, a3, a4, some (.own (.lst (cols.map colD))), x] := by
  obtain ⟨q, cs0, q0, q1, c0, e0⟩ := take_ok cs t wd hc ht (by omega) (by omega) (by omega)
  obtain ⟨cs1, t1, ls, c1, t10, t11, l1, p1, n1, e1⟩ := names_ok cs0 (t + 1) (1 + q) c0 (by omega) (by omega) (by omega) (by omega)
  obtain ⟨cs2, t2, cols, x, c2, t20, t21, m2, p2, h2, e2⟩ := tli_ok t1 (fI m) (fI wd) a3 a4 a6 ls cs1 c1 (by omega) (by omega) p1 (by omega)
  have hl : cols.length = (1 + q).toNat := by rw [← l1, ← m2, List.length_map]
  refine ⟨cs2, t2, cols, x, c2, by omega, by omega, ⟨?_, by omega, by rw [m2]; exact n1, p2, h2⟩, by simp [TLo2, e0, gAdd_i, e1, itemsD, e2]⟩
  rintro rfl
  simp at hl
  omega
theorem tables_ok (cs : List Int) (t m wd : Int) (hc : cs ≠ []) (ht : 0 ≤ t) (ht2 : t < 500000) (hm : 1 ≤ m) (hm2 : m ≤ 26) (hw : 1 ≤ wd) (hw2 : wd ≤ 5) :
    ∃ (cs' : List Int) (t' : Int) (ts : List TT), cs' ≠ [] ∧ t ≤ t' ∧ t' ≤ t + 30000 ∧ ts.length = m.toNat ∧ GoodT ts ∧ F_law_tables [sT cs t, fI m, fI wd] = .ok (.fro (.tuple (ts.map tblD))) [sT cs' t', fI m, fI wd] := by
  obtain ⟨cs1, t1, ls, c1, t10, t11, l1, p1, n1, e1⟩ := names_ok cs t m hc ht (by omega) (by omega) (by omega)
  obtain ⟨ε', e2, cs', t', ts, x, y, z, k1, k2, k3, k4, k5, rfl⟩ := loop_nx (p := .nm 4) (body := TLo) (fun i ε => ∃ (cs' : List Int) (t' : Int) (ts : List TT) (x y z : Option SV), cs' ≠ [] ∧ t1 ≤ t' ∧ t' ≤ t1 + 450 * (i : Int) ∧ ts.map (·.1) = ls.take i ∧ (∀ c ∈ ts, Gn c.1 ∧ GoodC c.2) ∧
      ε = [sT cs' t', fI m, fI wd, some (.own (.lst (ts.map tblD))), x, y, z])
    (ds := ls.map dL) (k := 0) (ε := [sT cs1 t1, fI m, fI wd, some (.own (.lst [])), none, none, none])
    ⟨cs1, t1, [], none, none, none, c1, by omega, by omega, rfl, (fun _ h => by cases h), rfl⟩ (fun i d ε hi hI => by
      obtain ⟨cs', t', ts, x, y, z, k1, k2, k3, k4, k5, rfl⟩ := hI
      obtain ⟨l, hil, rfl⟩ := get_map hi
      have hlt := lt_get hil
      have gl := p1 l (List.mem_of_getElem? hil)
      rw [Nat.zero_add] at k4 k3
      have hlen : ts.length = i := by
        have := congrArg List.length k4
        rw [List.length_map, List.length_take] at this
        omega
      obtain ⟨cs2, t2, cols, x2, c2, t20, t21, g2, e3⟩ := tlo2_ok t' m wd (some (.own (.lst (ts.map tblD)))) (some (.fro (dL l))) z cs' k1 (by omega) (by omega) hw hw2
      have hs : ts.length < sizeLine := by rw [sizeLine_eq]; omega
      rw [Nat.zero_add]
      have em : (ts ++ [(l, cols)]).map tblD = ts.map tblD ++ [.tuple [dL l, .tuple (cols.map colD)]] := by simp [tblD]
      refine ⟨_, _, by simp; rfl, by rw [em]; unfold TLo; simp [TLo1, e3, TLo3, gTuple, two_le, hs], cs2, t2, ts ++ [(l, cols)], some (.fro (dL l)), some (.own (.lst (cols.map colD))), x2, c2, by omega, by omega, ?_, ?_, rfl⟩
      · rw [take_get hil, ← k4, List.map_append]; rfl
      · intro c hc'
        rcases List.mem_append.mp hc' with hc' | hc'
        · exact k5 c hc'
        · rw [List.mem_singleton.mp hc']
          exact ⟨gl, g2⟩)
  rw [Nat.zero_add, List.length_map, List.take_length] at k4
  rw [Nat.zero_add, List.length_map] at k3
  have hl : ts.length = m.toNat := by rw [← l1, ← k4, List.length_map]
  refine ⟨cs', t', ts, k1, by omega, by omega, hl, ⟨by rw [k4]; exact n1, k5⟩, ?_⟩
  simp only [F_law_tables, B_law_tables_is, Tb_2_is, x_fnF, x_p0, x_p1, x_p2, x_seq]
  simp
  simp [Tb_1, e1, itemsD, e2, Tb_3, gTuple]
end M5

namespace M5
open PySem PySem.Spec L2 M3 M4
open PyProof.Rows hiding St
section
variable {ε : En} {m m2 : M RV} {mds : M (List D)} {i : Nat}
@[simp] theorem x_dIn (neg : Bool) : mDIn neg i m ε = (m ε).bind fun r ε1 => match dctAt ε1 i, keyR ε1 r with
  | some kvs, some k => .ok (.fro (.bool (neg ^^ (valD kvs k).isSome))) ε1
  | _, _ => .bad := rfl
@[simp] theorem x_dGet2 : mDGet2 i m m2 ε = (match dctAt ε i with
  | some _ => (m ε).bind fun r ε1 => (m2 ε1).bind fun z ε2 => (match dctAt ε2 i, keyR ε2 r with
    | some kvs, some k => (match valD kvs k with
      | some d => .ok (.fro d) ε2
      | none => (match z with
        | .fro d => .ok (.fro d) ε2
        | _ => .bad))
    | _, _ => .bad)
  | none => .bad) := rfl
@[simp] theorem x_enum : mEnum mds ε = (mds ε).bind fun rs ε1 => match rs with
  | [.list ds] => .ok (enumD 0 ds) ε1
  | [.tuple ds] => .ok (enumD 0 ds) ε1
  | _ => .bad := rfl
end
/-! ### finding -/
def findT (ts : List TT) (z : Str) : Option TT := ts.find? fun t => sL t.1 == z
def hasC (cols : List TC) (c : Str) : Bool := cols.any fun x => sL x.1 == c
def keyC (cols : List TC) (c : Str) : Bool := match cols with
  | x :: _ => sL x.1 == c
  | [] => false
def KW : List Str := ["bar", "carry", "look"]
def WS : List Str := ["bar", "carry", "empty", "fallback", "look"]
def WN : List Str := ["once", "end"]
theorem find_mem {ts : List TT} {z : Str} {t : TT} (h : findT ts z = some t) : t ∈ ts ∧ sL t.1 = z := by
  unfold findT at h
  exact ⟨List.mem_of_find?_eq_some h, by have := List.find?_some h; simpa using this⟩
/-! ### the place of a table, its columns -/
theorem gEq_str {y z : Str} (hy : SeqAt.shaped (.str y) = true) (hz : SeqAt.shaped (.str z) = true) : gEq (.str y) (.str z) = some (y == z) := by
  unfold gEq
  rw [if_pos ⟨hy, hz⟩, eqv_str]
theorem gIx_t {ds : List D} {k : Nat} {d : D} (h : ds[k]? = some d) : gIx (.tuple ds) (.int (k : Int)) = some (.val d) := by
  have hl := lt_get h
  show (L2.atI ds (k : Int)).map _ = _
  unfold L2.atI
  rw [ixN_lt (by omega) (by omega)]
  show ((ds[(k : Int).toNat]?).map _) = _
  rw [Int.toNat_natCast, h]
  rfl
end M5

namespace M5
open PySem PySem.Spec L2 M3 M4
open PyProof.Rows hiding St
def Ti1 : Sm := (sIf (mOr (mNot (mTru (oE (mCall 2 F_is_tuple_of (msCons (oE (mVar 1)) (msCons (oE (mC (.int 7))) msNil)))))) (mNot (mTru (oE (mCallB gAll (msCons (oE (mLc (mIt (fE (oE (mVar 1)))) (.nm 2) [2] mYes (fE (oE (mIsi "str" (oE (mVar 2))))))) msNil)))))) (sRet (mC (.bool false))) sNext)
def Ti2 : Sm := (sUnp (fE (oE (mVar 1))) (.tp [(.nm 3), (.nm 4), (.nm 5), (.nm 6), (.nm 7), (.nm 8), (.nm 9)]))
/-- a def that ends with a value -/
theorem fn_rt {own : List Nat} {N : Nat} {body : Sm} {ε E ε' εo : En} {d : D} (hp : parOk own 0 ε = true) (hl : ε.length ≤ N) (hE : ε ++ List.replicate (N - ε.length) none = E) (hb : body E = .rt (.fro d) ε') (ho : outE own ε' 0 ε = εo) : fnF own N body ε = .ok (.fro d) εo := by
  rw [x_fnF, if_pos ⟨hp, hl⟩, hE, hb, ← ho]
abbrev fS (z : Str) : Option SV := some (.fro (.str z))
abbrev fT (ts : List TT) : Option SV := some (.fro (.tuple (ts.map tblD)))
end M5

namespace M5
open PySem PySem.Spec L2 M3 M4
open PyProof.Rows hiding St
/-! ### the law's ties -/
structure TY where
  n : List Nat
  t : TT
  c : TC
  o : TT
  g : Str
  u : Str
  w : Str
def tieD (y : TY) : D := .tuple [dL y.n, dL y.t.1, dL y.c.1, dL y.o.1, .str y.g, .str y.u, .str y.w]
structure GoodY (ts : List TT) (y : TY) : Prop where
  n : Gn y.n
  t : y.t ∈ ts
  c : y.c ∈ y.t.2
  o : y.o ∈ ts
  g : y.g ∈ WS ∧ (y.g ∈ KW ∨ keyC y.t.2 (sL y.c.1) = false)
  u : y.u ∈ WS ∧ (y.u ∈ KW ∨ keyC y.t.2 (sL y.c.1) = false)
  w : y.w ∈ WN
theorem some_get (cs : List Int) (t : Int) (d : D) (ds : List D) (hd : d = .tuple ds ∨ d = .list ds) (hc : cs ≠ []) (ht : 0 ≤ t) (ht2 : t < 1000000) (hn : ds ≠ []) (hl : ds.length < 1000000) :
    ∃ (k : Nat) (x : D) (cs' : List Int), ds[k]? = some x ∧ cs' ≠ [] ∧ F_law_some [sT cs t, some (.fro d)] = .ok (.fro x) [sT cs' (t + 1), some (.fro d)] := by
  have h1 : 0 < ds.length := List.length_pos_iff.mpr hn
  obtain ⟨k, cs', k0, k1, c1, e⟩ := take_ok cs t (ds.length : Int) hc ht ht2 (by omega) (by omega)
  have hk : k.toNat < ds.length := by omega
  have ek : ((k.toNat : Nat) : Int) = k := by omega
  refine ⟨k.toNat, ds[k.toNat], cs', List.getElem?_eq_getElem hk, c1, ?_⟩
  rcases hd with rfl | rfl
  · have g := gIx_t (ds := ds) (k := k.toNat) (List.getElem?_eq_getElem hk)
    rw [ek] at g
    simp [F_law_some, B_law_some, gLen, e, g]
  · have g : gIx (.list ds) (.int k) = some (.val ds[k.toNat]) := by
      show (L2.atI ds k).map _ = _
      unfold L2.atI
      rw [ixN_lt k0 k1]
      show (ds[k.toNat]?).map _ = _
      rw [List.getElem?_eq_getElem hk]
      rfl
    simp [F_law_some, B_law_some, gLen, e, g]
theorem some_own (cs : List Int) (t : Int) (ds : List D) (hc : cs ≠ []) (ht : 0 ≤ t) (ht2 : t < 1000000) (hn : ds ≠ []) (hl : ds.length < 1000000) :
    ∃ (k : Nat) (x : D) (cs' : List Int), ds[k]? = some x ∧ cs' ≠ [] ∧ F_law_some [sT cs t, some (.own (.lst ds))] = .ok (.fro x) [sT cs' (t + 1), some (.own (.lst ds))] := by
  have h1 : 0 < ds.length := List.length_pos_iff.mpr hn
  obtain ⟨k, cs', k0, k1, c1, e⟩ := take_ok cs t (ds.length : Int) hc ht ht2 (by omega) (by omega)
  have hk : k.toNat < ds.length := by omega
  refine ⟨k.toNat, ds[k.toNat], cs', List.getElem?_eq_getElem hk, c1, ?_⟩
  have g : gIx (.list ds) (.int k) = some (.val ds[k.toNat]) := by
    show (L2.atI ds k).map _ = _
    unfold L2.atI
    rw [ixN_lt k0 k1]
    show (ds[k.toNat]?).map _ = _
    rw [List.getElem?_eq_getElem hk]
    rfl
  simp [F_law_some, B_law_some, gLen, e, g]
def ways (key : Bool) : List D := [.str "bar", .str "carry", .str "look"] ++ (if key = true then [] else [.str "empty", .str "fallback"])
end M5

namespace M5
open PySem PySem.Spec L2 M3 M4
open PyProof.Rows hiding St
end M5

namespace M3
open PySem PySem.Spec L2
open PyProof.Rows hiding St
/-! ### a comprehension of two clauses -/
theorem walk_any {J : It} {n : Nat} {G : Hp → Prop} {Y : Nat → Hp → V → Hp → Prop} (w : Walk J n G Y) {B : (Hp → Prop) → V → Hp → Prop} {H0 : Hp} {Qd : Hp → Prop} (Pv : Nat → Hp → Prop) (h0 : Pv 0 H0) (hG : ∀ i H, i ≤ n → Pv i H → G H)
    (hs : ∀ i x H H', i < n → Pv i H → Y i H x H' → B (Pv (i + 1)) x H') (hd : ∀ H, Pv n H → Qd H) :
    ∃ W : Nat → Nat → Hp → Prop, (∃ m, W 0 m H0) ∧ ∀ i m H, W i m H →
      (J.stop i H ∧ Qd H) ∨ (J.go i H ∧ ∃ Nx : Hp → Prop, (∀ H', Nx H' → ∃ m', m' < m ∧ W (i + 1) m' H') ∧ ∀ x H', J.yld i H x H' → B Nx x H') := by
  refine ⟨fun i m H => m = n - i ∧ i ≤ n ∧ Pv i H, ⟨n, by simp, Nat.zero_le _, h0⟩, ?_⟩
  rintro i m H ⟨rfl, hi, p⟩
  have q := hG i H hi p
  by_cases hlt : i < n
  · exact .inr ⟨w.goes i H hlt q, Pv (i + 1), fun H' p' => ⟨n - (i + 1), by omega, rfl, hlt, p'⟩, fun x H' y => hs i x H H' hlt p (w.yields i H x H' hlt q y)⟩
  · have e : i = n := by omega
    subst e
    exact .inl ⟨w.stops H q, hd H p⟩
/-- within a comprehension: the new object at D is nobody's, all else is as environments say -/
structure LcP (C : Ct) (Hf0 H0 : Hp) (o : Addr → Prop) (D : Addr) (σ : L2.St) (Hf H : Hp) (w : Own) (ε : En) (Ru : Hp → HO → Prop) : Prop where
  E : EnR C Hf H w σ ε
  at_ : ∃ u, H D = some u ∧ Ru Hf u
  mono : ∀ Hf Hf' u, Same Hf Hf' → Ru Hf u → Ru Hf' u
  hf : Hf D = none
  nw : ∀ i a, w i a → a ≠ D
  st : Stp Hf0 H0 o Hf H (fun x => O w x ∨ x = D)
def RuL (K : PySem.W.Frag) (acc : List M3.D) (Hf : Hp) (u : HO) : Prop := ∃ av, u = .lst av ∧ DqAll K Hf av acc
theorem RuL.mono {K : PySem.W.Frag} {acc : List M3.D} (Hf Hf' : Hp) (u : HO) (s : Same Hf Hf') : RuL K acc Hf u → RuL K acc Hf' u := fun ⟨av, e, q⟩ => ⟨av, e, q.mono s⟩
def RuD (K : PySem.W.Frag) (kvs : List (Key × M3.D)) (Hf : Hp) (u : HO) : Prop := ∃ kvv, u = .dK kvv ∧ KvAll K Hf kvv kvs
theorem RuD.mono {K : PySem.W.Frag} {kvs : List (Key × M3.D)} (Hf Hf' : Hp) (u : HO) (s : Same Hf Hf') : RuD K kvs Hf u → RuD K kvs Hf' u := fun ⟨av, e, q⟩ => ⟨av, e, q.mono s⟩
section
variable {C : Ct} {Hf0 H0 : Hp} {o : Addr → Prop} {D : Addr} {σ : L2.St} {Hf H : Hp} {w : Own} {ε : En} {Ru Ru' : Hp → HO → Prop}
theorem LcP.run {α β : Type} {Rel : Rl α β} {t : TX β} {m : M α} {a : α} {ε2 : En} {K : β → Hp → Prop} (h : Snd C Rel t m) (p : LcP C Hf0 H0 o D σ Hf H w ε Ru) (e : m ε = .ok a ε2)
    (k : ∀ Hf2 w2 S b H2, Same Hf Hf2 → Rel C Hf2 H2 w2 σ S b a → LcP C Hf0 H0 o D σ Hf2 H2 w2 ε2 Ru → K b H2) : t σ H K := by
  refine h Hf H w σ ε K p.E ?_
  rw [e]
  intro Hf2 H2 w2 S b E2 s2 r2
  obtain ⟨u, hD, dq⟩ := p.at_
  obtain ⟨q1, q2, q3⟩ := s2.rest D (by rw [hD]; simp) (fun ⟨j, q⟩ => p.nw j D q rfl)
  refine k Hf2 w2 S b H2 s2.mono r2 ⟨E2, ⟨u, q1.trans hD, p.mono _ _ _ s2.mono dq⟩, p.mono, q2.trans p.hf, fun i a hw z => q3 (.inl ⟨i, by rw [← z]; exact hw⟩), p.st.trans ⟨s2.mono, fun a ha na => ?_⟩⟩
  obtain ⟨r1, r2, r3⟩ := s2.rest a ha (fun z => na (.inl z))
  exact ⟨r1, r2, fun z => z.elim (fun z => r3 (.inl z)) fun z => na (.inr z)⟩
theorem LcP.wiped (p : LcP C Hf0 H0 o D σ Hf H w ε Ru) {vs : List Nat} (hv : ∀ i, vs.contains i = true → C.own.contains i = false) : LcP C Hf0 H0 o D (wipe σ vs) Hf H (wWipe w vs) (wipeE ε vs) Ru :=
  ⟨p.E.wiped hv, p.at_, p.mono, p.hf, fun i a z => p.nw i a z.2, p.st.out fun x z => z.elim (fun ⟨j, q⟩ => .inl ⟨j, q.2⟩) .inr⟩
theorem LcP.put (p : LcP C Hf0 H0 o D σ Hf H w ε Ru) {u : HO} (hu : Ru' Hf u) (hm : ∀ Hf Hf' u, Same Hf Hf' → Ru' Hf u → Ru' Hf' u) : LcP C Hf0 H0 o D σ Hf (upd H D u) w ε Ru' := by
  refine ⟨p.E.aside p.hf p.nw, ⟨_, upd_same, hu⟩, hm, p.hf, p.nw, p.st.trans ⟨Same.refl _, fun a ha na => ?_⟩⟩
  have aD : a ≠ D := fun z => na (.inr z)
  exact ⟨upd_ne aD, rfl, na⟩
theorem LcP.bind {g : TG} {vs : List Nat} {pt : Pat} {x : V} {d : M3.D} {ε2 : En} {Q : L2.St → Hp → Prop} (hg : PatS C g vs pt) (p : LcP C Hf0 H0 o D σ Hf H w ε Ru) (dq : Dq C.K Hf x d) (e : bindP pt d ε = some ε2)
    (k : ∀ σ2 w2, LcP C Hf0 H0 o D σ2 Hf H w2 ε2 Ru → Only vs σ σ2 → Q σ2 H) : g x σ H Q := by
  refine hg Hf H w σ ε x d ε2 _ p.E dq e fun σ2 w2 E2 st2 on2 => ?_
  obtain ⟨u, hD, q⟩ := p.at_
  refine k σ2 w2 ⟨E2, ⟨u, hD, q⟩, p.mono, p.hf, fun i a hw z => ?_, p.st.trans ⟨st2.mono, fun a ha na => ?_⟩⟩ on2
  · have := (st2.rest D (by rw [hD]; simp) (fun ⟨j, q⟩ => p.nw j D q rfl)).2.2
    exact this ⟨i, by rw [← z]; exact hw⟩
  · have nb : ¬ O w a := fun z => na (.inl z)
    obtain ⟨q1, q2, q3⟩ := st2.rest a ha nb
    exact ⟨q1, q2, fun z => z.elim q3 fun z => na (.inr z)⟩
/-- behind the loop -/
theorem LcP.back {C0 : Ct} {σ0 : L2.St} {ε0 εF : En} {w0 : Own} {vs : List Nat} (E : EnR C0 Hf0 H0 w0 σ0 ε0) (hD0 : H0 D = none) (p : LcP C Hf0 H0 (O (wWipe w0 vs)) D (wipe σ0 vs) Hf H w εF Ru) (hK : C.K = C0.K) (ho : C.own = C0.own) (hvs : C.vs = C0.vs) :
    ∃ w', EnR C0 Hf H w' σ0 (restE ε0 εF vs) ∧ Stp Hf0 H0 (O w0) Hf H (fun x => O w' x ∨ x = D) ∧ (∀ i a, w' i a → ¬ a = D) := by
  have E'' : EnR C0 Hf H w (wipe σ0 vs) εF := p.E.recast hK.symm ho.symm hvs.symm
  have hoo : ∀ i a, vs.contains i = true → w0 i a → ¬ O (wWipe w0 vs) a := fun i a hcv hw => fun ⟨j, q⟩ => by
    have := E.sep i j a hw q.2
    have q1 := q.1
    rw [← this, hcv] at q1
    cases q1
  have E7 := E.restored E'' p.st hoo (fun a z => .inl z)
  refine ⟨_, E7, ⟨p.st.mono, fun a ha na => ?_⟩, fun i a hw z => ?_⟩
  · obtain ⟨r1, r2, r3⟩ := p.st.rest a ha (fun ⟨j, q⟩ => na ⟨j, q.2⟩)
    refine ⟨r1, r2, fun z => z.elim (fun ⟨j, q⟩ => ?_) fun z => r3 (.inr z)⟩
    rcases q with ⟨_, q⟩ | ⟨_, q⟩
    · exact na ⟨j, q⟩
    · exact r3 (.inl ⟨j, q⟩)
  · rcases hw with ⟨_, q⟩ | ⟨_, q⟩
    · exact E.nw hD0 i a q z
    · exact p.nw i a q z
end
def lcLoop2 (p : Pat) (vs : List Nat) (c : M Bool) (mi1 : M (List D)) (p1 : Pat) (vs1 : List Nat) (c1 : M Bool) (m : M D) : List D → List D → En → R (List D)
  | [], acc, ε => .ok acc ε
  | d :: ds, acc, ε => match bindP p d ε with
    | none => .bad
    | some ε1 => match c ε1 with
      | .ok true ε2 => (match mi1 ε2 with
        | .ok ds1 ε3 => (match lcLoop p1 vs1 c1 m ds1 acc (wipeE ε3 vs1) with
          | .ok acc' ε4 => lcLoop2 p vs c mi1 p1 vs1 c1 m ds acc' (wipeE ε4 vs)
          | _ => .bad)
        | _ => .bad)
      | .ok false ε2 => lcLoop2 p vs c mi1 p1 vs1 c1 m ds acc (wipeE ε2 vs)
      | _ => .bad
def mLc2 (mi : M (List D)) (p : Pat) (vs : List Nat) (c : M Bool) (mi1 : M (List D)) (p1 : Pat) (vs1 : List Nat) (c1 : M Bool) (m : M D) : M RV := fun ε => (mi ε).bind fun ds ε1 => match lcLoop2 p vs c mi1 p1 vs1 c1 m ds [] (wipeE ε1 vs) with
  | .ok acc ε2 => .ok (.new (.lst acc)) (restE ε1 ε2 vs)
  | _ => .bad
/-! ### {k: v for ..}, keys whole numbers or texts -/
def dcLoop (p : Pat) (vs : List Nat) (c : M Bool) (mk mv : M D) : List D → List (Key × D) → En → R (List (Key × D))
  | [], acc, ε => .ok acc ε
  | d :: ds, acc, ε => match bindP p d ε with
    | none => .bad
    | some ε1 => match c ε1 with
      | .ok true ε2 => (match mk ε2 with
        | .ok y ε3 => (match mv ε3, keyD y with
          | .ok z ε4, some k => if acc.length < sizeLine then dcLoop p vs c mk mv ds (putD acc k z) (wipeE ε4 vs) else .bad
          | _, _ => .bad)
        | _ => .bad)
      | .ok false ε2 => dcLoop p vs c mk mv ds acc (wipeE ε2 vs)
      | _ => .bad
def mDc (mi : M (List D)) (p : Pat) (vs : List Nat) (c : M Bool) (mk mv : M D) : M RV := fun ε => (mi ε).bind fun ds ε1 => match dcLoop p vs c mk mv ds [] (wipeE ε1 vs) with
  | .ok acc ε2 => .ok (.new (.dct acc)) (restE ε1 ε2 vs)
  | _ => .bad
section
variable {X : Cx} {C : Ct} {pos : Pos}
end
end M3

namespace M3
open PySem PySem.Spec L2
open PyProof.Rows hiding St
/-! ### list(zip(xs, ys)) of two lists -/
structure ZAt (z TI TO i1 i2 l1 l2 S : Addr) (xs ys : Array Value) (i : Nat) (h : Heap) : Prop where
  ti : IsPair h TI (.ref i1) (.ref i2)
  it1 : h.IsListIter i1 l1 i
  it2 : h.IsListIter i2 l2 i
  li1 : h.IsList l1 xs
  li2 : h.IsList l2 ys
  st : (IsZip h z TI TO .none ∧ ∃ a b, IsPair h TO a b) ∨ ∃ T f oT, IsZipHeld h z TI TO T f ∧ h.get? T = some oT ∧ T ≠ z ∧ T ≠ i1 ∧ T ≠ i2 ∧ T ≠ S
section
variable {prog : Program} {w : World} {A : Around} {E : Value → Shared → Prop} {s : Shared} {z TI TO i1 i2 l1 l2 S : Addr} {xs ys : Array Value} {i : Nat}
theorem ZAt.keep {h h' : Heap} (x : ZAt z TI TO i1 i2 l1 l2 S xs ys i h) (n : S ≠ z ∧ S ≠ TI ∧ S ≠ TO ∧ S ≠ i1 ∧ S ≠ i2 ∧ S ≠ l1 ∧ S ≠ l2) (k : ∀ b o, b ≠ S → h.get? b = some o → h'.get? b = some o) : ZAt z TI TO i1 i2 l1 l2 S xs ys i h' := by
  obtain ⟨n1, n2, n3, n4, n5, n6, n7⟩ := n
  refine ⟨k _ _ n2.symm x.ti, x.it1.at fun o e => k _ o n4.symm e, x.it2.at fun o e => k _ o n5.symm e, x.li1.at fun o e => k _ o n6.symm e, x.li2.at fun o e => k _ o n7.symm e, ?_⟩
  rcases x.st with ⟨hz, a, b, hTO⟩ | ⟨T, f, oT, hz, hT, r1, r2, r3, r4⟩
  · exact .inl ⟨k _ _ n1.symm hz, a, b, k _ _ n3.symm hTO⟩
  · exact .inr ⟨T, f, oT, k _ _ n1.symm hz, k _ _ r4 hT, r1, r2, r3, r4⟩
end
section
variable {prog : Program} {w : World} {A : Around} {s : Shared} {R : Result → Shared → Prop} {z TI TO i1 i2 l1 l2 S : Addr} {xs ys : Array Value}
end
section
variable {prog : Program} {w : World} {A : Around} {E : Value → Shared → Prop} {s : Shared} {l1 l2 : Addr} {xs ys : Array Value}
end
end M3

namespace M3
open PySem PySem.Spec L2
open PyProof.Rows hiding St
/-! ### many pairs laid at once -/
/-! ### list(zip(xs, ys)) -/
def zipT (xs ys : List D) : List D := (xs.zip ys).map fun p => .tuple [p.1, p.2]
def mListZip (ms : M (List D)) : M RV := fun ε => (ms ε).bind fun ds ε1 => match ds with
  | [.list xs, .list ys] => if xs.length = ys.length then .ok (.new (.lst (zipT xs ys))) ε1 else .bad
  | _ => .bad
/-! ### None, left out -/
def msAppN (ms : M (List RV)) : M (List RV) := fun ε => (ms ε).bind fun rs ε1 => .ok (rs ++ [.fro .none]) ε1
@[simp] theorem x_appN {ms : M (List RV)} {ε : En} : msAppN ms ε = (ms ε).bind fun rs ε1 => .ok (rs ++ [.fro .none]) ε1 := rfl
/-! ### what the new loops come to -/
@[simp] theorem x_lc2 {mi mi1 : M (List D)} {p p1 : Pat} {vs vs1 : List Nat} {c c1 : M Bool} {m : M D} {ε : En} : mLc2 mi p vs c mi1 p1 vs1 c1 m ε = (mi ε).bind fun ds ε1 => match lcLoop2 p vs c mi1 p1 vs1 c1 m ds [] (wipeE ε1 vs) with
  | .ok acc ε2 => .ok (.new (.lst acc)) (restE ε1 ε2 vs)
  | _ => .bad := rfl
@[simp] theorem x_dc {mi : M (List D)} {p : Pat} {vs : List Nat} {c : M Bool} {mk mv : M D} {ε : En} : mDc mi p vs c mk mv ε = (mi ε).bind fun ds ε1 => match dcLoop p vs c mk mv ds [] (wipeE ε1 vs) with
  | .ok acc ε2 => .ok (.new (.dct acc)) (restE ε1 ε2 vs)
  | _ => .bad := rfl
@[simp] theorem x_listZip {ms : M (List D)} {ε : En} : mListZip ms ε = (ms ε).bind fun ds ε1 => match ds with
  | [.list xs, .list ys] => if xs.length = ys.length then .ok (.new (.lst (zipT xs ys))) ε1 else .bad
  | _ => .bad := rfl
end M3

namespace M3
open PySem PySem.Spec L2
open PyProof.Rows hiding St
/-! ### a comprehension over a name's list, which stays its owner's -/
def lstAt (ε : En) (i : Nat) : Option (List D) := match ε[i]? with
  | some (some (.own (.lst E))) => some E
  | some (some (.fro (.list E))) => some E
  | _ => none
theorem EnR.lstAt {C : Ct} {Hf H : Hp} {w : Own} {σ : L2.St} {ε : En} (E : EnR C Hf H w σ ε) {i : Nat} {ds : List D} (e : M3.lstAt ε i = some ds) : ∃ p vs, σ[i]? = some (some (.ref p)) ∧ SqL C.K H p vs ∧ DqAll C.K Hf vs ds := by
  unfold M3.lstAt at e
  split at e
  · rename_i E0 h
    cases e
    obtain ⟨p, vs, h1, h2, h3, _⟩ := E.ownLst h
    exact ⟨p, vs, h1, SqL.of h2, h3⟩
  · rename_i E0 h
    cases e
    have q := E.slot i
    rw [h] at q
    obtain ⟨_, v, h1, h2⟩ := q
    cases h2 with
    | lst a b => exact ⟨_, _, h1, SqL.of (E.sub _ _ a), b⟩
  · cases e
def lcLoopO (i n : Nat) (p : Pat) (vs : List Nat) (c : M Bool) (m : M D) : Nat → List D → En → R (List D)
  | 0, acc, ε => match lstAt ε i with
    | some E => if E.length = n then .ok acc ε else .bad
    | none => .bad
  | f + 1, acc, ε => match lstAt ε i with
    | some E => if E.length = n then (match E[n - (f + 1)]? with
      | some d => (match bindP p d ε with
        | none => .bad
        | some ε1 => match c ε1 with
          | .ok true ε2 => (match m ε2 with
            | .ok y ε3 => if acc.length < sizeLine then lcLoopO i n p vs c m f (acc ++ [y]) (wipeE ε3 vs) else .bad
            | _ => .bad)
          | .ok false ε2 => lcLoopO i n p vs c m f acc (wipeE ε2 vs)
          | _ => .bad)
      | none => .bad) else .bad
    | none => .bad
def mLcO (i : Nat) (p : Pat) (vs : List Nat) (c : M Bool) (m : M D) : M RV := fun ε => match lstAt ε i with
  | some E => (match lcLoopO i E.length p vs c m E.length [] (wipeE ε vs) with
    | .ok acc ε2 => .ok (.new (.lst acc)) (restE ε ε2 vs)
    | _ => .bad)
  | none => .bad
theorem loopO_at {i n : Nat} {p : Pat} {vs : List Nat} {c : M Bool} {m : M D} {f : Nat} {acc a : List D} {ε ε2 : En} (e : lcLoopO i n p vs c m f acc ε = .ok a ε2) : ∃ E, lstAt ε i = some E ∧ E.length = n := by
  cases f with
  | zero =>
    unfold lcLoopO at e
    split at e
    · rename_i E h
      split at e
      · rename_i h2; exact ⟨E, h, h2⟩
      · cases e
    · cases e
  | succ f =>
    unfold lcLoopO at e
    split at e
    · rename_i E h
      split at e
      · rename_i h2; exact ⟨E, h, h2⟩
      · cases e
    · cases e
theorem snd_lcO {C C' : Ct} {i : Nat} {g : TG} {vs : List Nat} {p : Pat} {tt : TT} {c : M Bool} {te : TE} {m : M D} (hi : vs.contains i = false) (hv : ∀ i, vs.contains i = true → C.own.contains i = false)
    (hK : C'.K = C.K) (ho : C'.own = C.own) (hvs : C'.vs = C.vs) (hg : PatS C' g vs p) (hc : Snd C' relB tt c) (he : Snd C' relD te m) : Snd C relRV (tLc (iList C.K (tVar i)) g tt te vs) (mLcO i p vs c m) := by
  intro Hf H w σ ε Q E P
  unfold mLcO at P
  split at P
  rotate_left
  · exact P.elim
  rename_i E0 e0
  obtain ⟨p0, us, h1, h2, h3⟩ := E.lstAt e0
  refine ⟨.ref p0, h1, p0, rfl, ⟨us, h2⟩, fun D hD => ?_⟩
  have hfD : Hf D = none := same_none E.sub hD
  have wi : (wipe σ vs)[i]? = some (some (.ref p0)) := by rw [wipe_get, hi, if_neg (by simp)]; exact h1
  cases eL : lcLoopO i E0.length p vs c m E0.length [] (wipeE ε vs) with
  | bad => rw [eL] at P; exact P.elim
  | err x ε2 => rw [eL] at P; exact P.elim
  | ok accF εF =>
  rw [eL] at P
  replace P : PostX C relRV Hf H w σ Q (.ok (.new (.lst accF)) (restE ε εF vs)) := P
  have Ew := ((E.wiped hv).recast (C' := C') hK ho hvs)
  have hv' : ∀ i, vs.contains i = true → C'.own.contains i = false := by rw [ho]; exact hv
  have wk : Walk (Itl C.K p0) E0.length (fun H' => ∃ xs, SqL C.K H' p0 xs ∧ xs.length = E0.length) (fun k H' x H'' => H'' = H' ∧ ∀ xs, SqL C.K H' p0 xs → xs[k]? = some x) :=
    ⟨fun k H' hk ⟨xs, q, l⟩ => ⟨xs, xs[k]'(by omega), q, by simp [List.getElem?_eq_getElem (show k < xs.length by omega)]⟩, fun H' ⟨xs, q, l⟩ => ⟨xs, q, Nat.le_of_eq l⟩, fun _ _ _ _ _ _ y => y⟩
  have at0 : ∀ {Hf' H' : Hp} {w' : Own} {ε' : En} {Ru : Hp → HO → Prop} {ds : List M3.D}, LcP C' Hf H (O (wWipe w vs)) D (wipe σ vs) Hf' H' w' ε' Ru → M3.lstAt ε' i = some ds → ∃ xs, SqL C.K H' p0 xs ∧ DqAll C.K Hf' xs ds := fun q e => by
    obtain ⟨p1, us1, a1, a2, a3⟩ := q.E.lstAt e
    rw [wi] at a1
    cases a1
    rw [hK] at a2 a3
    exact ⟨us1, a2, a3⟩
  refine walk_any (B := fun Nx x H' => g x (wipe σ vs) H' fun σ2 H2 => wipe σ2 vs = wipe σ vs ∧ tt σ2 H2 fun b H3 =>
      if b = true then te σ2 H3 fun y H4 => ∃ acc, H4 D = some (.lst acc) ∧ acc.length < sizeLine ∧ Nx (upd H4 D (.lst (acc ++ [y]))) else Nx H3) wk
    (fun k H' => ∃ Hf' w' ε' acc, LcP C' Hf H (O (wWipe w vs)) D (wipe σ vs) Hf' H' w' ε' (RuL C'.K acc) ∧ lcLoopO i E0.length p vs c m (E0.length - k) acc ε' = .ok accF εF) ?_ ?_ ?_ ?_
  · exact ⟨Hf, wWipe w vs, wipeE ε vs, [], ⟨Ew.layNew hD, ⟨_, upd_same, _, rfl, .nil⟩, RuL.mono, hfD, fun i a z => E.nw hD i a z.2, Stp.layNew hD⟩, by rw [Nat.sub_zero]; exact eL⟩
  · rintro k H' _ ⟨Hf', w', ε', acc, q, el⟩
    obtain ⟨ds, d1, d2⟩ := loopO_at el
    obtain ⟨xs, a1, a2⟩ := at0 q d1
    exact ⟨xs, a1, by rw [a2.length]; exact d2⟩
  · rintro k x H' H'' hk ⟨Hf', w', ε', acc, q, el⟩ ⟨rfl, y⟩
    have ek : E0.length - k = (E0.length - (k + 1)) + 1 := by omega
    rw [ek] at el
    obtain ⟨ds, d1, d2⟩ := loopO_at el
    obtain ⟨xs, a1, a2⟩ := at0 q d1
    unfold lcLoopO at el
    rw [d1] at el
    dsimp only at el
    rw [if_pos d2, show E0.length - (E0.length - (k + 1) + 1) = k by omega] at el
    have hx := y xs a1
    obtain ⟨d, hd, dq⟩ := a2.get hx
    rw [hd] at el
    dsimp only at el
    rw [← hK] at dq
    cases e : bindP p d ε' with
    | none => rw [e] at el; cases el
    | some ε1 =>
    rw [e] at el
    dsimp only at el
    refine q.bind hg dq e fun σ3 w3 q3 on3 => ?_
    have ow : wipe σ3 vs = wipe σ vs := by rw [only_wipe on3, only_wipe wipe_only]
    refine ⟨ow, ?_⟩
    cases ec : c ε1 with
    | bad => rw [ec] at el; cases el
    | err x4 ε4 => rw [ec] at el; cases el
    | ok b ε2 =>
    rw [ec] at el
    refine q3.run hc ec fun Hf4 w4 S4 b4 H4 sm4 r4 q4 => ?_
    obtain ⟨_, rfl⟩ := r4
    cases b4 with
    | false =>
      dsimp only at el
      rw [if_neg (by simp)]
      have q5 := q4.wiped hv'
      rw [ow] at q5
      exact ⟨Hf4, _, _, acc, q5, el⟩
    | true =>
      dsimp only at el
      rw [if_pos rfl]
      cases em : m ε2 with
      | bad => rw [em] at el; cases el
      | err x5 ε5 => rw [em] at el; cases el
      | ok y5 ε3 =>
      rw [em] at el
      dsimp only at el
      refine q4.run he em fun Hf5 w5 S5 b5 H5 sm5 r5 q5 => ?_
      split at el
      · rename_i hlen
        obtain ⟨_, hD5, av, rfl, dqa⟩ := q5.at_
        have q7 := (q5.put (Ru' := RuL C'.K (acc ++ [y5])) ⟨_, rfl, dqa.append (.cons r5.2 .nil)⟩ RuL.mono).wiped hv'
        rw [ow] at q7
        exact ⟨av, hD5, by rw [dqa.length]; exact hlen, Hf5, _, _, _, q7, el⟩
      · cases el
  · rintro H' ⟨Hf', w', ε', acc, q, el⟩
    rw [Nat.sub_self] at el
    obtain ⟨ds, d1, d2⟩ := loopO_at el
    unfold lcLoopO at el
    rw [d1] at el
    dsimp only at el
    rw [if_pos d2] at el
    cases el
    obtain ⟨w7, E7, st7, nw7⟩ := LcP.back E hD q hK ho hvs
    obtain ⟨_, g1, av, rfl, g2⟩ := q.at_
    exact P Hf' H' w7 (fun x => x = D) (.ref D) E7 st7 ⟨D, rfl, ⟨fun _ => Iff.rfl, av, g1, by rw [← hK]; exact g2⟩, fun a z => by rw [z]; exact q.hf, nw7⟩
section
variable {X : Cx} {C : Ct} {pos : Pos}
theorem me_lcO {x : Str} {px : Pos} {elt tg : Expr} {ifs : List Expr} {scope : Scope} {own : List (Str × Nat)} {g : TG} {tt : TT} {te : TE} {p : Pat} {c1 : M Bool} {mm : M D} (vs : List Nat) (i : Nat) (ok : BlkOk X.N X.env.scope scope own) (hN : X.N.Nodup)
    (hv : ∀ i, vs.contains i = true → C.own.contains i = false)
    (hg : ∀ (s : Shared) (H : Hp) (A : Addr) (cl : List (Str × Addr)) (fp : List Addr), MG (X.blk s H scope (compEnvC scope cl A X.env) fp) ⟨C.K, C.own, C.vs, noW⟩ vs tg g p)
    (ht : ∀ (s : Shared) (H : Hp) (A : Addr) (cl : List (Str × Addr)) (fp : List Addr), PTs (X.blk s H scope (compEnvC scope cl A X.env) fp) ifs tt ∧ Snd ⟨C.K, C.own, C.vs, noW⟩ relB tt c1)
    (he : ∀ (s : Shared) (H : Hp) (A : Addr) (cl : List (Str × Addr)) (fp : List Addr), MD (X.blk s H scope (compEnvC scope cl A X.env) fp) ⟨C.K, C.own, C.vs, noW⟩ elt te mm)
    (hx : X.N[i]? = some x := by rfl) (hvis : Vis X.env.scope x := by first | exact Or.inl rfl | exact Or.inr (Or.inl rfl) | exact Or.inr (Or.inr rfl)) (hd : (x == ("__debug__" : Str)) = false := by decide)
    (hcd : (x == ("__classdict__" : Str)) = false := by decide) (hK : X.K = C.K := by rfl)
    (hvs : own.map (·.2) = vs := by rfl) (hin : vs.contains i = false := by rfl) (hc : X.calm = true := by rfl) (hs : ∀ y, foldedSetIterable (.Name x px) X.env y = pure y := by intro _; rfl) :
    ME X C (.ListComp elt [⟨tg, .Name x px, ifs, 0⟩] scope pos) (tLc (iList C.K (tVar i)) g tt te vs) (mLcO i p vs c1 mm) := by
  obtain ⟨gs, _⟩ : PatS ⟨C.K, C.own, C.vs, noW⟩ g vs p ∧ True := ⟨(hg X.s_0 X.H_0 0 [] []).sn, trivial⟩
  refine ⟨?_, snd_lcO (C' := ⟨C.K, C.own, C.vs, noW⟩) hin hv rfl rfl rfl gs (ht X.s_0 X.H_0 0 [] []).2 (he X.s_0 X.H_0 0 [] []).sn, hK⟩
  have q := pe_lc (pos := pos) hc hN (pi_list (pe_var (pos := px) hx hvis hd hcd)) ok (fun s H A cl fp => (hg s H A cl fp).pg) (fun s H A cl fp => (ht s H A cl fp).1) (fun s H A cl fp => (he s H A cl fp).pe) hs
  rw [hvs, hK] at q
  exact q
end
@[simp] theorem x_lcO {i : Nat} {p : Pat} {vs : List Nat} {c : M Bool} {m : M D} {ε : En} : mLcO i p vs c m ε = match lstAt ε i with
  | some E => (match lcLoopO i E.length p vs c m E.length [] (wipeE ε vs) with
    | .ok acc ε2 => .ok (.new (.lst acc)) (restE ε ε2 vs)
    | _ => .bad)
  | none => .bad := rfl
theorem lcO_map {α : Type} {i : Nat} {p : Pat} {vs : List Nat} {m : M D} {g f : α → D} {ε : En} {xs : List α} (h0 : lstAt ε i = some (xs.map g)) (hz : xs.length ≤ sizeLine) (h : ∀ x ∈ xs, ∃ ε1 ε3, bindP p (g x) ε = some ε1 ∧ m ε1 = .ok (f x) ε3 ∧ wipeE ε3 vs = ε) :
    ∀ (k : Nat), k ≤ xs.length → lcLoopO i xs.length p vs mYes m k ((xs.take (xs.length - k)).map f) ε = .ok (xs.map f) ε
  | 0, _ => by
    unfold lcLoopO
    rw [h0]
    simp
  | k + 1, hk => by
    obtain ⟨x, hx⟩ : ∃ x, xs[xs.length - (k + 1)]? = some x := ⟨_, List.getElem?_eq_getElem (by omega)⟩
    obtain ⟨ε1, ε3, h1, h2, h3⟩ := h x (List.mem_of_getElem? hx)
    have e2 : (xs.map g)[xs.length - (k + 1)]? = some (g x) := by rw [List.getElem?_map, hx]; rfl
    have e3 : ((xs.take (xs.length - (k + 1))).map f ++ [f x]) = (xs.take (xs.length - k)).map f := by
      rw [show xs.length - k = xs.length - (k + 1) + 1 by omega, List.take_add_one, hx, List.map_append]
      rfl
    unfold lcLoopO
    rw [h0]
    simp only [List.length_map, if_true, e2, h1, h2, x_yes]
    rw [if_pos (by rw [List.length_take]; omega), e3, h3]
    exact lcO_map h0 hz h k (by omega)
end M3

namespace M5
open PySem PySem.Spec L2 M3 M4
open PyProof.Rows hiding St
def B_law_near : Sm := (sSeq (sSet 3 (mCall 2 F_law_take (msCons (oE (mVar 0)) (msCons (oE (mC (.int 8))) msNil))))
    (sRet (mIfE (mBl (mOp (bo gEq) (oE (mVar 3)) (oE (mC (.int 0))))) (mCall 1 F_law_worth (msCons (oE (mVar 0)) msNil)) (mOp gIx (oE (mLst (dsCons (fE (oE (mOp gAdd (oE (mVar 1)) (oE (mCall 2 F_law_take (msCons (oE (mVar 0)) (msCons (oE (mOp gMul (oE (mC (.int 2))) (oE (mVar 2)))) msNil))))))) (dsCons (fE (oE (mC .none))) dsNil)))) (oE (mCallB gInt (msCons (oE (mOp (bo gEq) (oE (mVar 3)) (oE (mC (.int 1))))) msNil)))))))
def F_law_near : M RV := fnF [0, 1, 2] 4 (B_law_near)
def B_law_content : Sm := (sSeq (sPar [3, 4] (msCons (mLst dsNil) (msCons (mOp gIx (oE (mLst (dsCons (fE (oE (mC (.int 0)))) (dsCons (fE (oE (mC (.int 1)))) (dsCons (fE (oE (mUn gNeg (oE (mC (.int 3)))))) (dsCons (fE (oE (mOp gPow (oE (mC (.int 10))) (oE (mC (.int 6)))))) dsNil)))))) (oE (mCall 2 F_law_take (msCons (oE (mVar 0)) (msCons (oE (mC (.int 4))) msNil))))) msNil)))
    (sSeq (sFor (mIt (fE (oE (mVar 1)))) (.tp [(.nm 5), (.nm 6)]) (sSeq (sSet 7 (mLst dsNil))
    (sSeq (sFor (mRng2 (msCons (oE (mVar 4)) (msCons (oE (mOp gAdd (oE (mVar 4)) (oE (mOp gMul (oE (mC (.int 2))) (oE (mVar 2)))))) msNil))) (.nm 8) (sIf (mAnd (mBl (mOp (bo gLt) (oE (mCallB gLen (msCons (oE (mVar 7)) msNil))) (oE (mVar 2)))) (mBl (mOp (bo gEq) (oE (mCall 2 F_law_take (msCons (oE (mVar 0)) (msCons (oE (mC (.int 2))) msNil)))) (oE (mC (.int 0)))))) (sSeq (sSet 9 (mLc (mIt (fE (oE (mSl gSl (oE (mVar 6)) (mPart (oE (mC (.int 1)))) mNoPart)))) (.nm 10) [10] mYes (fE (oE (mCall 3 F_law_near (msCons (oE (mVar 0)) (msCons (oE (mVar 4)) (msCons (oE (mVar 2)) msNil))))))))
    (sAppend 7 (fE (oE (mCallB gTuple (msCons (oE (mOp gAdd (oE (mLst (dsCons (fE (oE (mVar 8))) dsNil))) (oE (mVar 9)))) msNil)))))) sNext))
    (sAppend 3 (fE (oE (mVar 7)))))))
    (sRet (mVar 3))))
def F_law_content : M RV := fnF [0, 1, 2] 11 (B_law_content)
def B_law_deed : Sm := (sSeq (sSet 3 (mCall 2 F_law_take (msCons (oE (mVar 0)) (msCons (oE (mCallB gLen (msCons (oE (mVar 1)) msNil))) msNil))))
    (sSeq (sUnp (fE (oE (mOp gIx (oE (mVar 1)) (oE (mVar 3))))) (.tp [(.nm 4), (.nm 5)]))
    (sSeq (sSet 6 (mLc (mIt (fE (oE (mOp gIx (oE (mVar 2)) (oE (mVar 3)))))) (.nm 7) [7] mYes (fE (oE (mOp gIx (oE (mVar 7)) (oE (mC (.int 0))))))))
    (sSeq (sSet 8 (mIfE (mAnd (mBl (mOp (bo gNe) (oE (mVar 6)) (oE (mLst dsNil)))) (mBl (mOp (bo gGt) (oE (mCall 2 F_law_take (msCons (oE (mVar 0)) (msCons (oE (mC (.int 6))) msNil)))) (oE (mC (.int 0)))))) (mCall 2 F_law_some (msCons (oE (mVar 0)) (msCons (oE (mVar 6)) msNil))) (mOp M3.gSub (oE (mCall 2 F_law_take (msCons (oE (mVar 0)) (msCons (oE (mC (.int 12))) msNil)))) (oE (mC (.int 3))))))
    (sSeq (sUnp (fE (oE (mTup (dsCons (fE (oE (mCall 2 F_law_take (msCons (oE (mVar 0)) (msCons (oE (mCallB gLen (msCons (oE (mVar 5)) msNil))) msNil))))) (dsCons (fE (oE (mCall 2 F_law_take (msCons (oE (mVar 0)) (msCons (oE (mC (.int 10))) msNil))))) dsNil))))) (.tp [(.nm 9), (.nm 10)]))
    (sSeq (sSet 11 (mOp gAdd (oE (mLc (mIt (fE (oE (mOp gIx (oE (mVar 2)) (oE (mVar 3)))))) (.nm 7) [7] mYes (fE (oE (mOp gIx (oE (mVar 7)) (oE (mVar 9))))))) (oE (mLst (dsCons (fE (oE (mC .none))) (dsCons (fE (oE (mC (.int 0)))) dsNil))))))
    (sSeq (sIf (mBl (mOp (bo gLt) (oE (mVar 10)) (oE (mC (.int 2))))) (sSeq (sSet 12 (mLc (mIt (fE (oE (mSl gSl (oE (mVar 5)) (mPart (oE (mC (.int 1)))) mNoPart)))) (.nm 13) [13] mYes (fE (oE (mCall 3 F_law_near (msCons (oE (mVar 0)) (msCons (oE (mVar 8)) (msCons (oE (mC (.int 3))) msNil))))))))
    (sRet (mTup (dsCons (fE (oE (mC (.str "put")))) (dsCons (fE (oE (mVar 4))) (dsCons (fE (oE (mCallB gTuple (msCons (oE (mOp gAdd (oE (mLst (dsCons (fE (oE (mOp gAdd (oE (mVar 8)) (oE (mOp gMul (oE (mCall 2 F_law_take (msCons (oE (mVar 0)) (msCons (oE (mC (.int 9))) msNil)))) (oE (mCall 2 F_law_take (msCons (oE (mVar 0)) (msCons (oE (mC (.int 2))) msNil))))))))) dsNil))) (oE (mVar 12)))) msNil)))) dsNil)))))) sNext)
    (sSeq (sIf (mBl (mOp (bo gLt) (oE (mVar 10)) (oE (mC (.int 4))))) (sRet (mTup (dsCons (fE (oE (mC (.str "drop")))) (dsCons (fE (oE (mVar 4))) (dsCons (fE (oE (mVar 8))) dsNil))))) sNext)
    (sSeq (sIf (mBl (mOp (bo gLt) (oE (mVar 10)) (oE (mC (.int 6))))) (sRet (mTup (dsCons (fE (oE (mC (.str "sweep")))) (dsCons (fE (oE (mVar 4))) (dsCons (fE (oE (mOp gIx (oE (mOp gIx (oE (mVar 5)) (oE (mVar 9)))) (oE (mC (.int 0)))))) (dsCons (fE (oE (mCall 2 F_law_some (msCons (oE (mVar 0)) (msCons (oE (mVar 11)) msNil))))) dsNil)))))) sNext)
    (sSeq (sIf (mBl (mOp (bo gEq) (oE (mVar 10)) (oE (mC (.int 6))))) (sRet (mTup (dsCons (fE (oE (mC (.str "shift")))) (dsCons (fE (oE (mVar 4))) (dsCons (fE (oE (mOp gIx (oE (mOp gIx (oE (mVar 5)) (oE (mVar 9)))) (oE (mC (.int 0)))))) (dsCons (fE (oE (mOp gIx (oE (mLst (dsCons (fE (oE (mC (.int 1)))) (dsCons (fE (oE (mUn gNeg (oE (mC (.int 1)))))) (dsCons (fE (oE (mOp M3.gSub (oE (mCall 2 F_law_take (msCons (oE (mVar 0)) (msCons (oE (mC (.int 9))) msNil)))) (oE (mC (.int 4)))))) (dsCons (fE (oE (mC (.int 0)))) dsNil)))))) (oE (mCall 2 F_law_take (msCons (oE (mVar 0)) (msCons (oE (mC (.int 4))) msNil))))))) dsNil)))))) sNext)
    (sSeq (sSet 9 (mOp gMul (oE (mVar 9)) (oE (mCallB gInt (msCons (oE (mOp (bo gEq) (oE (mCall 2 F_law_take (msCons (oE (mVar 0)) (msCons (oE (mC (.int 2))) msNil)))) (oE (mC (.int 0))))) msNil)))))
    (sSeq (sSet 14 (mIfE (mBl (mOp (bo gEq) (oE (mVar 9)) (oE (mC (.int 0))))) (mOp M3.gSub (oE (mOp gAdd (oE (mVar 8)) (oE (mCall 2 F_law_take (msCons (oE (mVar 0)) (msCons (oE (mC (.int 12))) msNil)))))) (oE (mC (.int 4)))) (mCall 2 F_law_some (msCons (oE (mVar 0)) (msCons (oE (mOp gAdd (oE (mVar 11)) (oE (mLst (dsCons (fE (oE (mCall 3 F_law_near (msCons (oE (mVar 0)) (msCons (oE (mVar 8)) (msCons (oE (mC (.int 3))) msNil)))))) dsNil))))) msNil)))))
    (sRet (mTup (dsCons (fE (oE (mC (.str "set")))) (dsCons (fE (oE (mVar 4))) (dsCons (fE (oE (mVar 8))) (dsCons (fE (oE (mOp gIx (oE (mOp gIx (oE (mVar 5)) (oE (mVar 9)))) (oE (mC (.int 0)))))) (dsCons (fE (oE (mVar 14))) dsNil)))))))))))))))))))
def F_law_deed : M RV := fnF [0, 1, 2] 15 (B_law_deed)
end M5

namespace M5
open PySem PySem.Spec L2 M3 M4
open PyProof.Rows hiding St
@[simp] theorem x_star {ε : En} {md : M D} (n : Nat) (ps : List Pat) : sStar md n ps ε = (md ε).toS fun d ε1 => match seqD d with
  | some ds => if n ≤ ds.length then (match bindPs ps (ds.take n ++ [.list (ds.drop n)]) ε1 with
    | some ε2 => .nx ε2
    | none => .bad) else .bad
  | none => .bad := rfl
@[simp] theorem x_kget {ε : En} {m m2 : M RV} (kvs : List (Str × D)) : mKGet2 kvs m m2 ε = (m ε).bind fun r ε1 => (m2 ε1).bind fun z ε2 => match view ε2 r with
  | some (.str k) => (match findK kvs k with
    | some d => .ok (.fro d) ε2
    | none => (match z with
      | .fro d => .ok (.fro d) ε2
      | _ => .bad))
  | _ => .bad := rfl
@[simp] theorem x_disp {ε : En} {ms : M (List D)} (ks : List Str) : mDisp ks ms ε = (ms ε).bind fun ds ε1 => if ds.length = ks.length ∧ ks.length ≤ 15 then .ok (.new (.dct (mergeD [] ((ks.map fun k => (.inr k : Key)).zip ds)))) ε1 else .bad := rfl
abbrev fC (cols : List TC) : Option SV := some (.fro (.tuple (cols.map colD)))
def pRow (cols : List TC) : D → Bool
  | .tuple (x :: xs) => decide (xs.length + 1 = cols.length) && ((x :: xs).all (pWorth BIG) && !isNoneD x)
  | _ => false
def pColm (cols : List TC) : D → Bool
  | .str c => hasC cols c
  | _ => false
def pKey (cols : List TC) : D → Bool
  | .str c => keyC cols c
  | _ => false
def pFit (cols : List TC) (w : Str) (ps : List D) : Bool :=
  if w = "put" then (match ps with
    | [x] => pRow cols x
    | _ => false)
  else if w = "drop" then (match ps with
    | [x] => !isNoneD x && pWorth BIG x
    | _ => false)
  else if w = "set" then (match ps with
    | [k, c, v] => (!isNoneD k && pWorth BIG k) && (pColm cols c && (pWorth BIG v && !(isNoneD v && pKey cols c)))
    | _ => false)
  else if w = "sweep" then (match ps with
    | [c, v] => pColm cols c && pWorth BIG v
    | _ => false)
  else if w = "shift" then (match ps with
    | [c, v] => pColm cols c && (pWorth BIG v && !isNoneD v)
    | _ => false)
  else false
def pDeed (ts : List TT) : D → Bool
  | .tuple (.str w :: .str t :: ps) => (match findT ts t with
    | none => false
    | some tb => pFit tb.2 w ps)
  | _ => false
end M5

namespace M5
open PySem PySem.Spec L2 M3 M4
open PyProof.Rows hiding St
section
variable (ts : List TT) (hT : GoodT ts) (t : Str) (tb : TT) (st : SeqAt.shaped (.str t) = true) (hf : findT ts t = some tb)
include hT st hf
end
end M5

namespace M5
open PySem PySem.Spec L2 M3 M4
open PyProof.Rows hiding St
@[simp] theorem x_rng2 {ε : En} {ms : M (List RV)} : mRng2 ms ε = (ms ε).bind fun rs ε1 => match viewAll ε1 rs with
  | some [.int i, .int j] => if -(2 ^ 62) ≤ i ∧ i < 2 ^ 62 ∧ -(2 ^ 62) ≤ j ∧ j < 2 ^ 62 then .ok (rngD i (j - i).toNat) ε1 else .bad
  | _ => .bad := rfl
def Co1 : Sm := (sPar [3, 4] (msCons (mLst dsNil) (msCons (mOp gIx (oE (mLst (dsCons (fE (oE (mC (.int 0)))) (dsCons (fE (oE (mC (.int 1)))) (dsCons (fE (oE (mUn gNeg (oE (mC (.int 3)))))) (dsCons (fE (oE (mOp gPow (oE (mC (.int 10))) (oE (mC (.int 6)))))) dsNil)))))) (oE (mCall 2 F_law_take (msCons (oE (mVar 0)) (msCons (oE (mC (.int 4))) msNil))))) msNil)))
def Co2 : Sm := (sFor (mIt (fE (oE (mVar 1)))) (.tp [(.nm 5), (.nm 6)]) (sSeq (sSet 7 (mLst dsNil))
    (sSeq (sFor (mRng2 (msCons (oE (mVar 4)) (msCons (oE (mOp gAdd (oE (mVar 4)) (oE (mOp gMul (oE (mC (.int 2))) (oE (mVar 2)))))) msNil))) (.nm 8) (sIf (mAnd (mBl (mOp (bo gLt) (oE (mCallB gLen (msCons (oE (mVar 7)) msNil))) (oE (mVar 2)))) (mBl (mOp (bo gEq) (oE (mCall 2 F_law_take (msCons (oE (mVar 0)) (msCons (oE (mC (.int 2))) msNil)))) (oE (mC (.int 0)))))) (sSeq (sSet 9 (mLc (mIt (fE (oE (mSl gSl (oE (mVar 6)) (mPart (oE (mC (.int 1)))) mNoPart)))) (.nm 10) [10] mYes (fE (oE (mCall 3 F_law_near (msCons (oE (mVar 0)) (msCons (oE (mVar 4)) (msCons (oE (mVar 2)) msNil))))))))
    (sAppend 7 (fE (oE (mCallB gTuple (msCons (oE (mOp gAdd (oE (mLst (dsCons (fE (oE (mVar 8))) dsNil))) (oE (mVar 9)))) msNil)))))) sNext))
    (sAppend 3 (fE (oE (mVar 7)))))))
def Co3 : Sm := (sRet (mVar 3))
theorem B_law_content_is : B_law_content = (sSeq Co1 (sSeq Co2 Co3)) := rfl
theorem near_ok (cs : List Int) (t low m : Int) (hc : cs ≠ []) (ht : 0 ≤ t) (ht2 : t < 800000) (h1 : -2000000 ≤ low) (h2 : low ≤ 2000000) (m1 : 1 ≤ m) (m2 : m ≤ 100) :
    ∃ d cs' t', Wd d ∧ cs' ≠ [] ∧ t ≤ t' ∧ t' ≤ t + 4 ∧ F_law_near [sT cs t, fI low, fI m] = .ok (.fro d) [sT cs' t', fI low, fI m] := by
  obtain ⟨w, cs1, w0, w1, c1, e1⟩ := take_ok cs t 8 hc ht (by omega) (by omega) (by omega)
  by_cases hw : w = 0
  · subst hw
    obtain ⟨d, cs2, t2, hd, c2, t20, t21, e2⟩ := worth_ok cs1 (t + 1) c1 (by omega) (by omega)
    exact ⟨d, cs2, t2, hd, c2, by omega, by omega, by simp [F_law_near, B_law_near, e1, gEq_int, e2]⟩
  · have hm : gMul (.int 2) (.int m) = some (.val (.int (2 * m))) := gMul_i (by omega)
    obtain ⟨k, cs2, k0, k1, c2, e2⟩ := take_ok cs1 (t + 1) (2 * m) c1 (by omega) (by omega) (by omega) (by omega)
    by_cases h : w = 1
    · exact ⟨.none, cs2, t + 1 + 1, .inl rfl, c2, by omega, by omega, by subst h; simp [F_law_near, B_law_near, e1, gEq_int, hm, e2, gAdd_i, two_le, gInt, gIx2_1]⟩
    · exact ⟨.int (low + k), cs2, t + 1 + 1, .inr ⟨_, rfl, by omega, by omega⟩, c2, by omega, by omega, by simp [F_law_near, B_law_near, e1, gEq_int, hw, h, hm, e2, gAdd_i, two_le, gInt, gIx2_0]⟩
/-! ### contents that are drawn -/
abbrev RW := Int × List D
def rowD (r : RW) : D := .tuple (.int r.1 :: r.2)
def rowsD (rs : List RW) : D := .list (rs.map rowD)
structure GoodR (cols : List TC) (r : RW) : Prop where
  k : -2000000 ≤ r.1 ∧ r.1 ≤ 2000000
  l : r.2.length + 1 = cols.length
  w : ∀ x ∈ r.2, Wd x
structure GoodRs (cols : List TC) (rs : List RW) : Prop where
  up : rs.Pairwise fun a b => a.1 < b.1
  g : ∀ r ∈ rs, GoodR cols r
  l : rs.length ≤ 10
structure GoodCt (ts : List TT) (ct : List (List RW)) : Prop where
  l : ct.length = ts.length
  g : ∀ (i : Nat) t rs, ts[i]? = some t → ct[i]? = some rs → GoodRs t.2 rs
theorem slice1 (d : D) (ds : List D) : gSl (.tuple (d :: ds)) (some 1) none = some (.newt ds) := by
  have e1 : HT.sIx (d :: ds).length 0 (some 1) = 1 := by
    rw [show (some (1 : Int)) = some ((1 : Nat) : Int) from rfl, HT.sIx_nat]
    simp
  unfold gSl
  simp only [e1]
  rw [if_neg (by simp)]
  unfold M3.cutD
  rw [e1, HT.sIx_none]
  simp
theorem colsTail {cols : List TC} (h : GoodC cols) : ∃ c r, cols = c :: r ∧ gSl (.tuple (cols.map colD)) (some 1) none = some (.newt (r.map colD)) ∧ r.length + 1 = cols.length := by
  cases cols with
  | nil => exact absurd rfl h.ne
  | cons c r => exact ⟨c, r, rfl, slice1 (colD c) (r.map colD), rfl⟩
theorem near_lc (low m t : Int) (h1 : -2000000 ≤ low) (h2 : low ≤ 2000000) (m1 : 1 ≤ m) (m2 : m ≤ 100) (a1 a3 a5 a6 a7 a8 a9 : Option SV) (ds : List D) (hl : ds.length ≤ 5) (cs : List Int) (hc : cs ≠ []) (ht : 0 ≤ t) (ht2 : t < 700000) :
    ∃ ws cs' t', ws.length = ds.length ∧ (∀ x ∈ ws, Wd x) ∧ cs' ≠ [] ∧ t ≤ t' ∧ t' ≤ t + 20 ∧
      lcLoop (.nm 10) [10] mYes (fE (oE (mCall 3 F_law_near (msCons (oE (mVar 0)) (msCons (oE (mVar 4)) (msCons (oE (mVar 2)) msNil)))))) ds [] [sT cs t, a1, fI m, a3, fI low, a5, a6, a7, a8, a9, none] = .ok ws [sT cs' t', a1, fI m, a3, fI low, a5, a6, a7, a8, a9, none] := by
  obtain ⟨ws, ε', e, ⟨cs', t', c, t0, t1, hw, rfl⟩, hlen⟩ := lc_inv (p := .nm 10) (vs := [10]) (m := fE (oE (mCall 3 F_law_near (msCons (oE (mVar 0)) (msCons (oE (mVar 4)) (msCons (oE (mVar 2)) msNil))))))
    (fun acc ε => ∃ cs' t', cs' ≠ [] ∧ t ≤ t' ∧ t' ≤ t + 4 * (acc.length : Int) ∧ (∀ x ∈ acc, Wd x) ∧ ε = [sT cs' t', a1, fI m, a3, fI low, a5, a6, a7, a8, a9, none]) (N := 5) (by rw [sizeLine_eq]; omega) (ds := ds) (acc := []) (ε := [sT cs t, a1, fI m, a3, fI low, a5, a6, a7, a8, a9, none])
    ⟨cs, t, hc, by omega, by simp, (fun _ h => by cases h), rfl⟩ (fun d hd acc ε hI ha => by
      obtain ⟨cs1, t1, c1, t10, t11, hw, rfl⟩ := hI
      obtain ⟨y, cs2, t2, hy, c2, t20, t21, e2⟩ := near_ok cs1 t1 low m c1 (by omega) (by omega) h1 h2 m1 m2
      refine ⟨_, y, _, by simp; rfl, by simp [e2]; rfl, cs2, t2, c2, by omega, by simp; omega, fun x hx => ?_, by simp⟩
      rcases List.mem_append.mp hx with hx | hx
      · exact hw x hx
      · rw [List.mem_singleton.mp hx]; exact hy) (by simpa using hl)
  simp at hlen
  exact ⟨ws, cs', t', hlen, hw, c, t0, by omega, e⟩
def Ib : Sm := (sIf (mAnd (mBl (mOp (bo gLt) (oE (mCallB gLen (msCons (oE (mVar 7)) msNil))) (oE (mVar 2)))) (mBl (mOp (bo gEq) (oE (mCall 2 F_law_take (msCons (oE (mVar 0)) (msCons (oE (mC (.int 2))) msNil)))) (oE (mC (.int 0)))))) (sSeq (sSet 9 (mLc (mIt (fE (oE (mSl gSl (oE (mVar 6)) (mPart (oE (mC (.int 1)))) mNoPart)))) (.nm 10) [10] mYes (fE (oE (mCall 3 F_law_near (msCons (oE (mVar 0)) (msCons (oE (mVar 4)) (msCons (oE (mVar 2)) msNil))))))))
    (sAppend 7 (fE (oE (mCallB gTuple (msCons (oE (mOp gAdd (oE (mLst (dsCons (fE (oE (mVar 8))) dsNil))) (oE (mVar 9)))) msNil)))))) sNext)
def Ob2 : Sm := (sFor (mRng2 (msCons (oE (mVar 4)) (msCons (oE (mOp gAdd (oE (mVar 4)) (oE (mOp gMul (oE (mC (.int 2))) (oE (mVar 2)))))) msNil))) (.nm 8) Ib)
def Ob : Sm := (sSeq (sSet 7 (mLst dsNil)) (sSeq Ob2 (sAppend 3 (fE (oE (mVar 7))))))
theorem Co2_is : Co2 = sFor (mIt (fE (oE (mVar 1)))) (.tp [(.nm 5), (.nm 6)]) Ob := rfl
theorem rng_at {lo : Int} {n i : Nat} {d : D} (h : (rngD lo n)[i]? = some d) : d = .int (lo + (i : Int)) ∧ i < n := by
  unfold rngD at h
  rw [List.getElem?_map] at h
  by_cases hi : i < n
  · rw [List.getElem?_range hi] at h
    cases h
    exact ⟨rfl, hi⟩
  · rw [List.getElem?_eq_none (by simpa using hi)] at h
    cases h
/-- one key -/
theorem ib_ok (low m k t : Int) (h1 : -2000000 ≤ low) (h2 : low ≤ 1500000) (m1 : 1 ≤ m) (m2 : m ≤ 10) (hk : low ≤ k) (hk2 : k ≤ low + 20) (cols : List TC) (gc : GoodC cols) (rs : List RW) (hr : GoodRs cols rs) (hrm : (rs.length : Int) ≤ m) (hlt : ∀ r ∈ rs, r.1 < k)
    (a1 a3 a5 a9 : Option SV) (cs : List Int) (hc : cs ≠ []) (ht : 0 ≤ t) (ht2 : t < 600000) :
    ∃ rs' cs' t' x, GoodRs cols rs' ∧ (rs'.length : Int) ≤ m ∧ (∀ r ∈ rs', r.1 < k + 1) ∧ cs' ≠ [] ∧ t ≤ t' ∧ t' ≤ t + 21 ∧
      Ib [sT cs t, a1, fI m, a3, fI low, a5, fC cols, some (.own (.lst (rs.map rowD))), fI k, a9, none] = .nx [sT cs' t', a1, fI m, a3, fI low, a5, fC cols, some (.own (.lst (rs'.map rowD))), fI k, x, none] := by
  have keep : ∀ r ∈ rs, r.1 < k + 1 := fun r hr' => by have := hlt r hr'; omega
  by_cases hlm : (rs.length : Int) < m
  · obtain ⟨q, cs1, q0, q1, c1, e1⟩ := take_ok cs t 2 hc ht (by omega) (by omega) (by omega)
    by_cases hq : q = 0
    · subst hq
      obtain ⟨c, r, hcr, gs, hl⟩ := colsTail gc
      have hl5 := gc.l
      obtain ⟨ws, cs2, t2, hwl, hw, c2, t20, t21, e2⟩ := near_lc low m (t + 1) h1 (by omega) m1 (by omega) a1 a3 a5 (fC cols) (some (.own (.lst (rs.map rowD)))) (fI k) a9 (r.map colD) (by rw [List.length_map]; omega) cs1 c1 (by omega) (by omega)
      rw [List.length_map] at hwl
      have g : gAdd (.list [.int k]) (.list ws) = some (.newl (.int k :: ws)) := by
        have := gAdd_l (xs := [PyData.int k]) (ys := ws) (by simp; omega)
        simpa using this
      have hs : rs.length < sizeLine := by rw [sizeLine_eq]; omega
      have h1s : (1 : Nat) ≤ sizeLine := by rw [sizeLine_eq]; omega
      refine ⟨rs ++ [(k, ws)], cs2, t2, some (.own (.lst ws)), ⟨?_, ?_, ?_⟩, ?_, ?_, c2, by omega, by omega, ?_⟩
      · rw [List.pairwise_append]
        refine ⟨hr.up, List.pairwise_singleton _ _, fun a ha b hb => ?_⟩
        rw [List.mem_singleton.mp hb]
        exact hlt a ha
      · intro x hx
        rcases List.mem_append.mp hx with hx | hx
        · exact hr.g x hx
        · rw [List.mem_singleton.mp hx]
          exact ⟨⟨by show -2000000 ≤ k; omega, by show k ≤ 2000000; omega⟩, by show ws.length + 1 = _; omega, hw⟩
      · rw [List.length_append, List.length_singleton]; omega
      · rw [List.length_append, List.length_singleton]; omega
      · intro x hx
        rcases List.mem_append.mp hx with hx | hx
        · exact keep x hx
        · rw [List.mem_singleton.mp hx]; show k < k + 1; omega
      · have em : (rs ++ [(k, ws)]).map rowD = rs.map rowD ++ [.tuple (.int k :: ws)] := by simp [rowD]
        rw [em]
        simp [Ib, gLen, gI, hlm, e1, gEq_int, gs, itemsD, e2, h1s, g, gTuple, hs]
    · exact ⟨rs, cs1, t + 1, a9, hr, hrm, keep, c1, by omega, by omega, by simp [Ib, gLen, gI, hlm, e1, gEq_int, hq]⟩
  · exact ⟨rs, cs, t, a9, hr, hrm, keep, hc, by omega, by omega, by simp [Ib, gLen, gI, hlm]⟩
theorem ob2_ok (low m t : Int) (h1 : -2000000 ≤ low) (h2 : low ≤ 1500000) (m1 : 1 ≤ m) (m2 : m ≤ 10) (cols : List TC) (gc : GoodC cols) (a1 a3 a5 a8 a9 : Option SV) (cs : List Int) (hc : cs ≠ []) (ht : 0 ≤ t) (ht2 : t < 500000) :
    ∃ rs' cs' t' x y, GoodRs cols rs' ∧ (rs'.length : Int) ≤ m ∧ cs' ≠ [] ∧ t ≤ t' ∧ t' ≤ t + 420 ∧
      Ob2 [sT cs t, a1, fI m, a3, fI low, a5, fC cols, some (.own (.lst [])), a8, a9, none] = .nx [sT cs' t', a1, fI m, a3, fI low, a5, fC cols, some (.own (.lst (rs'.map rowD))), x, y, none] := by
  have hm : gMul (.int 2) (.int m) = some (.val (.int (2 * m))) := gMul_i (by omega)
  obtain ⟨ε', e1, rs', cs', t', x, y, k1, k2, k3, k4, k5, k6, rfl⟩ := loop_nx (p := .nm 8) (body := Ib) (fun i ε => ∃ rs' cs' t' x y, GoodRs cols rs' ∧ (rs'.length : Int) ≤ m ∧ (∀ r ∈ rs', r.1 < low + (i : Int)) ∧ cs' ≠ [] ∧ t ≤ t' ∧ t' ≤ t + 21 * (i : Int) ∧
      ε = [sT cs' t', a1, fI m, a3, fI low, a5, fC cols, some (.own (.lst (rs'.map rowD))), x, y, none])
    (ds := rngD low (low + 2 * m - low).toNat) (k := 0) (ε := [sT cs t, a1, fI m, a3, fI low, a5, fC cols, some (.own (.lst [])), a8, a9, none])
    ⟨[], cs, t, a8, a9, ⟨List.Pairwise.nil, (fun _ h => by cases h), by simp⟩, (by have : (([] : List RW).length : Int) = 0 := rfl; omega), (fun _ h => by cases h), hc, by omega, by omega, rfl⟩ (fun i d ε hi hI => by
      obtain ⟨rs, cs', t', x, y, k1, k2, k3, k4, k5, k6, rfl⟩ := hI
      obtain ⟨rfl, hin⟩ := rng_at hi
      rw [Nat.zero_add] at k3 k6 ⊢
      obtain ⟨rs2, cs2, t2, z, g1, g2, g3, g4, g5, g6, e⟩ := ib_ok low m (low + (i : Int)) t' h1 h2 m1 m2 (by omega) (by omega) cols gc rs k1 k2 k3 a1 a3 a5 y cs' k4 (by omega) (by omega)
      exact ⟨_, _, by simp, e, rs2, cs2, t2, _, z, g1, g2, (fun r hr => by have := g3 r hr; omega), g4, by omega, by omega, rfl⟩)
  have hr : (rngD low (low + 2 * m - low).toNat).length = (low + 2 * m - low).toNat := by unfold rngD; rw [List.length_map, List.length_range]
  rw [Nat.zero_add, hr] at k6
  refine ⟨rs', cs', t', x, y, k1, k2, k4, k5, by omega, ?_⟩
  have q : -(2 ^ 62) ≤ low ∧ low < 2 ^ 62 ∧ -(2 ^ 62) ≤ low + 2 * m ∧ low + 2 * m < 2 ^ 62 := by omega
  simp only [Ob2, x_for, x_rng2]
  simp only [x_msCons, x_oE, x_var, x_msNil, x_op, x_c]
  simp [hm, gAdd_i]
  rw [if_pos (by omega)]
  simp [e1]
theorem content_ok (ts : List TT) (hT : GoodT ts) (hl : ts.length ≤ 26) (cs : List Int) (t m : Int) (hc : cs ≠ []) (ht : 0 ≤ t) (ht2 : t < 400000) (m1 : 1 ≤ m) (m2 : m ≤ 10) :
    ∃ ct cs' t', GoodCt ts ct ∧ cs' ≠ [] ∧ t ≤ t' ∧ t' ≤ t + 12000 ∧ F_law_content [sT cs t, fT ts, fI m] = .ok (.new (.lst (ct.map rowsD))) [sT cs' t', fT ts, fI m] := by
  obtain ⟨q, cs0, q0, q1, c0, e0⟩ := take_ok cs t 4 hc ht (by omega) (by omega) (by omega)
  obtain ⟨low, l1, l2, el⟩ : ∃ low : Int, -2000000 ≤ low ∧ low ≤ 1500000 ∧ gIx (.list [.int 0, .int 1, .int (-3), .int 1000000]) (.int q) = some (.val (.int low)) := by
    have : q = 0 ∨ q = 1 ∨ q = 2 ∨ q = 3 := by omega
    rcases this with rfl | rfl | rfl | rfl
    · exact ⟨0, by omega, by omega, by simp [gIx, atI, ixN]⟩
    · exact ⟨1, by omega, by omega, by simp [gIx, atI, ixN]⟩
    · exact ⟨-3, by omega, by omega, by simp [gIx, atI, ixN]⟩
    · exact ⟨1000000, by omega, by omega, by simp [gIx, atI, ixN]⟩
  have h4 : (4 : Nat) ≤ sizeLine := by rw [sizeLine_eq]; omega
  have f1 : Co1 [sT cs t, fT ts, fI m, none, none, none, none, none, none, none, none] = .nx [sT cs0 (t + 1), fT ts, fI m, some (.own (.lst [])), fI low, none, none, none, none, none, none] := by
    simp [Co1, gNeg, gPow, e0, el, h4]
  obtain ⟨ε', e1, ct, cs', t', x5, x6, x7, x8, x9, k1, k2, k3, k4, k5, rfl⟩ := loop_nx (p := .tp [(.nm 5), (.nm 6)]) (body := Ob) (fun i ε => ∃ (ct : List (List RW)) (cs' : List Int) (t' : Int) (x5 x6 x7 x8 x9 : Option SV), ct.length = i ∧ (∀ (j : Nat) t rs, ts[j]? = some t → ct[j]? = some rs → GoodRs t.2 rs) ∧ cs' ≠ [] ∧ t + 1 ≤ t' ∧ t' ≤ t + 1 + 420 * (i : Int) ∧
      ε = [sT cs' t', fT ts, fI m, some (.own (.lst (ct.map rowsD))), fI low, x5, x6, x7, x8, x9, none])
    (ds := ts.map tblD) (k := 0) (ε := [sT cs0 (t + 1), fT ts, fI m, some (.own (.lst [])), fI low, none, none, none, none, none, none])
    ⟨[], cs0, t + 1, none, none, none, none, none, rfl, (fun j t rs _ h => by simp at h), c0, by omega, by omega, rfl⟩ (fun i d ε hi hI => by
      obtain ⟨ct, cs', t', x5, x6, x7, x8, x9, k1, k2, k3, k4, k5, rfl⟩ := hI
      obtain ⟨tb, hit, rfl⟩ := get_map hi
      have hlt := lt_get hit
      rw [Nat.zero_add] at k1 k5 ⊢
      have gt := hT.g tb (List.mem_of_getElem? hit)
      obtain ⟨rs, cs2, t2, y8, y9, g1, g2, g3, g4, g5, e⟩ := ob2_ok low m t' l1 l2 m1 m2 tb.2 gt.2 (fT ts) (some (.own (.lst (ct.map rowsD)))) (some (.fro (dL tb.1))) x8 x9 cs' k3 (by omega) (by omega)
      have hs : ct.length < sizeLine := by rw [sizeLine_eq]; omega
      have em : (ct ++ [rs]).map rowsD = ct.map rowsD ++ [.list (rs.map rowD)] := by simp [rowsD]
      refine ⟨_, _, by simp [tblD]; rfl, by unfold Ob; simp [e, hs]; rfl, ct ++ [rs], cs2, t2, _, _, some (.fro (.list (rs.map rowD))), y8, y9, by rw [List.length_append, k1]; rfl, fun j t' rs' h1 h2 => ?_, g3, by omega, by omega, by rw [em]⟩
      by_cases hj : j < ct.length
      · rw [List.getElem?_append_left hj] at h2
        exact k2 j t' rs' h1 h2
      · have hj2 := lt_get h2
        rw [List.length_append, List.length_singleton] at hj2
        have : j = i := by omega
        subst this
        rw [hit] at h1
        cases h1
        rw [← k1, List.getElem?_concat_length] at h2
        cases h2
        exact g1)
  rw [Nat.zero_add, List.length_map] at k1 k5
  refine ⟨ct, cs', t', ⟨k1, k2⟩, k3, by omega, by omega, ?_⟩
  have f2 : Co2 [sT cs0 (t + 1), fT ts, fI m, some (.own (.lst [])), fI low, none, none, none, none, none, none] = .nx [sT cs' t', fT ts, fI m, some (.own (.lst (ct.map rowsD))), fI low, x5, x6, x7, x8, x9, none] := by
    simp [Co2_is, itemsD, e1]
  simp only [F_law_content, B_law_content_is, x_fnF, x_p0, x_p1, x_p2, x_seq]
  simp [f1, f2, Co3]
end M5

namespace M5
open PySem PySem.Spec L2 M3 M4
open PyProof.Rows hiding St
def De1 : Sm := (sSet 3 (mCall 2 F_law_take (msCons (oE (mVar 0)) (msCons (oE (mCallB gLen (msCons (oE (mVar 1)) msNil))) msNil))))
def De2 : Sm := (sUnp (fE (oE (mOp gIx (oE (mVar 1)) (oE (mVar 3))))) (.tp [(.nm 4), (.nm 5)]))
def De3 : Sm := (sSet 6 (mLc (mIt (fE (oE (mOp gIx (oE (mVar 2)) (oE (mVar 3)))))) (.nm 7) [7] mYes (fE (oE (mOp gIx (oE (mVar 7)) (oE (mC (.int 0))))))))
def De4 : Sm := (sSet 8 (mIfE (mAnd (mBl (mOp (bo gNe) (oE (mVar 6)) (oE (mLst dsNil)))) (mBl (mOp (bo gGt) (oE (mCall 2 F_law_take (msCons (oE (mVar 0)) (msCons (oE (mC (.int 6))) msNil)))) (oE (mC (.int 0)))))) (mCall 2 F_law_some (msCons (oE (mVar 0)) (msCons (oE (mVar 6)) msNil))) (mOp M3.gSub (oE (mCall 2 F_law_take (msCons (oE (mVar 0)) (msCons (oE (mC (.int 12))) msNil)))) (oE (mC (.int 3))))))
def De5 : Sm := (sUnp (fE (oE (mTup (dsCons (fE (oE (mCall 2 F_law_take (msCons (oE (mVar 0)) (msCons (oE (mCallB gLen (msCons (oE (mVar 5)) msNil))) msNil))))) (dsCons (fE (oE (mCall 2 F_law_take (msCons (oE (mVar 0)) (msCons (oE (mC (.int 10))) msNil))))) dsNil))))) (.tp [(.nm 9), (.nm 10)]))
def De6 : Sm := (sSet 11 (mOp gAdd (oE (mLc (mIt (fE (oE (mOp gIx (oE (mVar 2)) (oE (mVar 3)))))) (.nm 7) [7] mYes (fE (oE (mOp gIx (oE (mVar 7)) (oE (mVar 9))))))) (oE (mLst (dsCons (fE (oE (mC .none))) (dsCons (fE (oE (mC (.int 0)))) dsNil))))))
def De7 : Sm := (sIf (mBl (mOp (bo gLt) (oE (mVar 10)) (oE (mC (.int 2))))) (sSeq (sSet 12 (mLc (mIt (fE (oE (mSl gSl (oE (mVar 5)) (mPart (oE (mC (.int 1)))) mNoPart)))) (.nm 13) [13] mYes (fE (oE (mCall 3 F_law_near (msCons (oE (mVar 0)) (msCons (oE (mVar 8)) (msCons (oE (mC (.int 3))) msNil))))))))
    (sRet (mTup (dsCons (fE (oE (mC (.str "put")))) (dsCons (fE (oE (mVar 4))) (dsCons (fE (oE (mCallB gTuple (msCons (oE (mOp gAdd (oE (mLst (dsCons (fE (oE (mOp gAdd (oE (mVar 8)) (oE (mOp gMul (oE (mCall 2 F_law_take (msCons (oE (mVar 0)) (msCons (oE (mC (.int 9))) msNil)))) (oE (mCall 2 F_law_take (msCons (oE (mVar 0)) (msCons (oE (mC (.int 2))) msNil))))))))) dsNil))) (oE (mVar 12)))) msNil)))) dsNil)))))) sNext)
def De8 : Sm := (sIf (mBl (mOp (bo gLt) (oE (mVar 10)) (oE (mC (.int 4))))) (sRet (mTup (dsCons (fE (oE (mC (.str "drop")))) (dsCons (fE (oE (mVar 4))) (dsCons (fE (oE (mVar 8))) dsNil))))) sNext)
def De9 : Sm := (sIf (mBl (mOp (bo gLt) (oE (mVar 10)) (oE (mC (.int 6))))) (sRet (mTup (dsCons (fE (oE (mC (.str "sweep")))) (dsCons (fE (oE (mVar 4))) (dsCons (fE (oE (mOp gIx (oE (mOp gIx (oE (mVar 5)) (oE (mVar 9)))) (oE (mC (.int 0)))))) (dsCons (fE (oE (mCall 2 F_law_some (msCons (oE (mVar 0)) (msCons (oE (mVar 11)) msNil))))) dsNil)))))) sNext)
def De10 : Sm := (sIf (mBl (mOp (bo gEq) (oE (mVar 10)) (oE (mC (.int 6))))) (sRet (mTup (dsCons (fE (oE (mC (.str "shift")))) (dsCons (fE (oE (mVar 4))) (dsCons (fE (oE (mOp gIx (oE (mOp gIx (oE (mVar 5)) (oE (mVar 9)))) (oE (mC (.int 0)))))) (dsCons (fE (oE (mOp gIx (oE (mLst (dsCons (fE (oE (mC (.int 1)))) (dsCons (fE (oE (mUn gNeg (oE (mC (.int 1)))))) (dsCons (fE (oE (mOp M3.gSub (oE (mCall 2 F_law_take (msCons (oE (mVar 0)) (msCons (oE (mC (.int 9))) msNil)))) (oE (mC (.int 4)))))) (dsCons (fE (oE (mC (.int 0)))) dsNil)))))) (oE (mCall 2 F_law_take (msCons (oE (mVar 0)) (msCons (oE (mC (.int 4))) msNil))))))) dsNil)))))) sNext)
def De11 : Sm := (sSet 9 (mOp gMul (oE (mVar 9)) (oE (mCallB gInt (msCons (oE (mOp (bo gEq) (oE (mCall 2 F_law_take (msCons (oE (mVar 0)) (msCons (oE (mC (.int 2))) msNil)))) (oE (mC (.int 0))))) msNil)))))
def De12 : Sm := (sSet 14 (mIfE (mBl (mOp (bo gEq) (oE (mVar 9)) (oE (mC (.int 0))))) (mOp M3.gSub (oE (mOp gAdd (oE (mVar 8)) (oE (mCall 2 F_law_take (msCons (oE (mVar 0)) (msCons (oE (mC (.int 12))) msNil)))))) (oE (mC (.int 4)))) (mCall 2 F_law_some (msCons (oE (mVar 0)) (msCons (oE (mOp gAdd (oE (mVar 11)) (oE (mLst (dsCons (fE (oE (mCall 3 F_law_near (msCons (oE (mVar 0)) (msCons (oE (mVar 8)) (msCons (oE (mC (.int 3))) msNil)))))) dsNil))))) msNil)))))
def De13 : Sm := (sRet (mTup (dsCons (fE (oE (mC (.str "set")))) (dsCons (fE (oE (mVar 4))) (dsCons (fE (oE (mVar 8))) (dsCons (fE (oE (mOp gIx (oE (mOp gIx (oE (mVar 5)) (oE (mVar 9)))) (oE (mC (.int 0)))))) (dsCons (fE (oE (mVar 14))) dsNil)))))))
theorem B_law_deed_is : B_law_deed = (sSeq De1 (sSeq De2 (sSeq De3 (sSeq De4 (sSeq De5 (sSeq De6 (sSeq De7 (sSeq De8 (sSeq De9 (sSeq De10 (sSeq De11 (sSeq De12 De13)))))))))))) := rfl
theorem find_of {ts : List TT} (h : (ts.map (·.1)).Nodup) {t : TT} (ht : t ∈ ts) : findT ts (sL t.1) = some t := by
  unfold findT
  induction ts with
  | nil => cases ht
  | cons s ts ih =>
    rw [List.map_cons, List.nodup_cons] at h
    rw [List.find?_cons]
    rcases List.mem_cons.mp ht with rfl | ht
    · simp
    · have : (sL s.1 == sL t.1) = false := by
        rw [beq_eq_false_iff_ne]
        intro e
        exact h.1 (List.mem_map.mpr ⟨t, ht, (sL_inj e).symm⟩)
      rw [this]
      exact ih h.2 ht
theorem has_of {cols : List TC} {c : TC} (h : c ∈ cols) : hasC cols (sL c.1) = true := by
  unfold hasC
  rw [List.any_eq_true]
  exact ⟨c, h, beq_self_eq_true _⟩
theorem key_not {cols : List TC} (h : (cols.map (·.1)).Nodup) {c : TC} {p : Nat} (hp : cols[p]? = some c) (h0 : p ≠ 0) : keyC cols (sL c.1) = false := by
  cases cols with
  | nil => simp at hp
  | cons x r =>
    show (sL x.1 == sL c.1) = false
    rw [beq_eq_false_iff_ne]
    intro e
    rw [List.map_cons, List.nodup_cons] at h
    obtain ⟨q, rfl⟩ : ∃ q, p = q + 1 := ⟨p - 1, by omega⟩
    rw [List.getElem?_cons_succ] at hp
    exact h.1 (List.mem_map.mpr ⟨c, List.mem_of_getElem? hp, (sL_inj e).symm⟩)
theorem wd_pw {d : D} (h : Wd d) : pWorth BIG d = true := by
  rcases h with rfl | ⟨i, rfl, h1, h2⟩
  · rfl
  · show (decide _ && decide _) = true
    rw [decide_eq_true (by show -(1000000000 : Int) ≤ i; omega), decide_eq_true (by show i ≤ (1000000000 : Int); omega)]
    rfl
theorem wd_int {k : Int} (h1 : -1000000000 ≤ k) (h2 : k ≤ 1000000000) : Wd (.int k) := .inr ⟨k, rfl, h1, h2⟩
theorem sh_ints (ks : List Int) : SeqAt.shaped (.list (ks.map PyData.int)) = true := sh_list (fun x hx => by
  obtain ⟨k, _, rfl⟩ := List.mem_map.mp hx
  exact sh_int k) fun x hx => by
  obtain ⟨k, _, rfl⟩ := List.mem_map.mp hx
  unfold PyData.depth
  omega
theorem gNe_ints (ks : List Int) : gNe (.list (ks.map PyData.int)) (.list []) = some (!ks.isEmpty) := by
  unfold gNe
  rw [if_pos ⟨sh_ints ks, sh_nil⟩, eqv_nil]
  cases ks <;> rfl
theorem gIx_ln {ds : List D} {k : Nat} {d : D} (h : ds[k]? = some d) : gIx (.list ds) (.int (k : Int)) = some (.val d) := by
  have hl := lt_get h
  show (L2.atI ds (k : Int)).map _ = _
  unfold L2.atI
  rw [ixN_lt (by omega) (by omega)]
  show (ds[(k : Int).toNat]?).map _ = _
  rw [Int.toNat_natCast, h]
  rfl
def EnD (ts : List TT) (ct : List (List RW)) (cs : List Int) (t : Int) (i : Nat) (tb : TT) (ks : List Int) (k p w : Int) (os : List D) (a12 a14 : Option SV) : En :=
  [sT cs t, fT ts, some (.own (.lst (ct.map rowsD))), fI i, some (.fro (dL tb.1)), fC tb.2, some (.own (.lst (ks.map PyData.int))), none, fI k, fI p, fI w, some (.own (.lst os)), a12, none, a14]
theorem row_wd {cols : List TC} {r : RW} (h : GoodR cols r) {p : Nat} (hp : p < cols.length) : ∃ d, gIx (rowD r) (.int (p : Int)) = some (.val d) ∧ Wd d := by
  have hl : p < (PyData.int r.1 :: r.2).length := by rw [List.length_cons, h.l]; exact hp
  refine ⟨(PyData.int r.1 :: r.2)[p], gIx_t (List.getElem?_eq_getElem hl), ?_⟩
  have hm := List.getElem_mem hl
  rcases List.mem_cons.mp hm with e | e
  · rw [e]; have := h.k; exact wd_int (by omega) (by omega)
  · exact h.w _ e
theorem pre_ok (ts : List TT) (hT : GoodT ts) (hne : ts ≠ []) (hl : ts.length ≤ 26) (ct : List (List RW)) (hC : GoodCt ts ct) (cs : List Int) (t : Int) (hc : cs ≠ []) (ht : 0 ≤ t) (ht2 : t < 800000) :
    ∃ cs' t' i tb ks k p w os, tb ∈ ts ∧ -2000000 ≤ k ∧ k ≤ 2000000 ∧ (0 ≤ p ∧ p < (tb.2.length : Int)) ∧ (0 ≤ w ∧ w < 10) ∧ os ≠ [] ∧ os.length ≤ 12 ∧ (∀ x ∈ os, Wd x) ∧ cs' ≠ [] ∧ t ≤ t' ∧ t' ≤ t + 5 ∧
      ∃ E1 E2 E3 E4 E5, De1 [sT cs t, fT ts, some (.own (.lst (ct.map rowsD))), none, none, none, none, none, none, none, none, none, none, none, none] = .nx E1 ∧ De2 E1 = .nx E2 ∧ De3 E2 = .nx E3 ∧ De4 E3 = .nx E4 ∧ De5 E4 = .nx E5 ∧ De6 E5 = .nx (EnD ts ct cs' t' i tb ks k p w os none none) := by
  have h1 : 0 < ts.length := List.length_pos_iff.mpr hne
  obtain ⟨i, cs1, i0, i1, c1, e1⟩ := take_ok cs t (ts.length : Int) hc ht (by omega) (by omega) (by omega)
  obtain ⟨i, rfl⟩ : ∃ j : Nat, i = (j : Int) := ⟨i.toNat, by omega⟩
  have hi : i < ts.length := by omega
  obtain ⟨tb, htb⟩ : ∃ tb, ts[i]? = some tb := ⟨_, List.getElem?_eq_getElem hi⟩
  obtain ⟨rs, hrs⟩ : ∃ rs, ct[i]? = some rs := ⟨_, List.getElem?_eq_getElem (by rw [hC.l]; exact hi)⟩
  have hR := hC.g i tb rs htb hrs
  have mtb := List.mem_of_getElem? htb
  have gt := hT.g tb mtb
  have g1 : gIx (.tuple (ts.map tblD)) (.int (i : Int)) = some (.val (tblD tb)) := gIx_t (by rw [List.getElem?_map, htb]; rfl)
  have g2 : gIx (.list (ct.map rowsD)) (.int (i : Int)) = some (.val (.list (rs.map rowD))) := gIx_ln (by rw [List.getElem?_map, hrs]; rfl)
  have f1 : De1 [sT cs t, fT ts, some (.own (.lst (ct.map rowsD))), none, none, none, none, none, none, none, none, none, none, none, none] = .nx [sT cs1 (t + 1), fT ts, some (.own (.lst (ct.map rowsD))), fI i, none, none, none, none, none, none, none, none, none, none, none] := by
    simp [De1, gLen, e1]
  have f2 : De2 [sT cs1 (t + 1), fT ts, some (.own (.lst (ct.map rowsD))), fI i, none, none, none, none, none, none, none, none, none, none, none] = .nx [sT cs1 (t + 1), fT ts, some (.own (.lst (ct.map rowsD))), fI i, some (.fro (dL tb.1)), fC tb.2, none, none, none, none, none, none, none, none, none] := by
    simp [De2, g1]
    simp [tblD]
  have lk := lc_gen (p := .nm 7) (vs := [7]) (m := fE (oE (mOp gIx (oE (mVar 7)) (oE (mC (.int 0)))))) (f := nameOf) (ε := [sT cs1 (t + 1), fT ts, some (.own (.lst (ct.map rowsD))), fI i, some (.fro (dL tb.1)), fC tb.2, none, none, none, none, none, none, none, none, none]) (ds := rs.map rowD) (acc := [])
    (fun d hd => by
      obtain ⟨r, hr, rfl⟩ := List.mem_map.mp hd
      have gi : gIx (rowD r) (.int 0) = some (.val (.int r.1)) := by
        rw [show (.int 0 : D) = .int ((0 : Nat) : Int) from rfl]
        exact gIx_t rfl
      exact ⟨_, _, by simp; rfl, by simp [gi]; exact ⟨rfl, rfl⟩, by simp⟩) (by rw [sizeLine_eq, List.length_map]; have := hR.l; simp; omega)
  have em : (rs.map rowD).map nameOf = (rs.map (·.1)).map PyData.int := by rw [List.map_map, List.map_map]; rfl
  rw [em, List.nil_append] at lk
  obtain ⟨ks, hks⟩ : ∃ ks, ks = rs.map (·.1) := ⟨_, rfl⟩
  rw [← hks] at lk
  have f3 : De3 [sT cs1 (t + 1), fT ts, some (.own (.lst (ct.map rowsD))), fI i, some (.fro (dL tb.1)), fC tb.2, none, none, none, none, none, none, none, none, none] = .nx [sT cs1 (t + 1), fT ts, some (.own (.lst (ct.map rowsD))), fI i, some (.fro (dL tb.1)), fC tb.2, some (.own (.lst (ks.map PyData.int))), none, none, none, none, none, none, none, none] := by
    simp only [De3, x_set, x_lc]
    simp [g2, itemsD, lk]
  have hk : ∀ x ∈ ks, -2000000 ≤ x ∧ x ≤ 2000000 := fun x hx => by
    rw [hks] at hx
    obtain ⟨r, hr, rfl⟩ := List.mem_map.mp hx
    exact (hR.g r hr).k
  have gn := gNe_ints ks
  obtain ⟨k, cs2, t2, k1, k2, c2, t20, t21, f4⟩ : ∃ k cs2 t2, -2000000 ≤ k ∧ k ≤ 2000000 ∧ cs2 ≠ [] ∧ t + 1 ≤ t2 ∧ t2 ≤ t + 3 ∧ De4 [sT cs1 (t + 1), fT ts, some (.own (.lst (ct.map rowsD))), fI i, some (.fro (dL tb.1)), fC tb.2, some (.own (.lst (ks.map PyData.int))), none, none, none, none, none, none, none, none] = .nx [sT cs2 t2, fT ts, some (.own (.lst (ct.map rowsD))), fI i, some (.fro (dL tb.1)), fC tb.2, some (.own (.lst (ks.map PyData.int))), none, fI k, none, none, none, none, none, none] := by
    cases hke : ks with
    | nil =>
      rw [hke] at gn
      obtain ⟨q, cs2, q0, q1, c2, e2⟩ := take_ok cs1 (t + 1) 12 c1 (by omega) (by omega) (by omega) (by omega)
      simp only [List.map_nil] at gn ⊢
      exact ⟨q - 3, cs2, t + 1 + 1, by omega, by omega, c2, by omega, by omega, by simp [De4, gn, e2, gSub_i]⟩
    | cons k0 kr =>
      rw [← hke]
      have gn : gNe (.list (ks.map PyData.int)) (.list []) = some true := by rw [gn, hke]; rfl
      obtain ⟨q, cs2, q0, q1, c2, e2⟩ := take_ok cs1 (t + 1) 6 c1 (by omega) (by omega) (by omega) (by omega)
      by_cases hq : 0 < q
      · obtain ⟨n, x, cs3, hx, c3, e3⟩ := some_own cs2 (t + 1 + 1) (ks.map PyData.int) c2 (by omega) (by omega) (by rw [hke]; simp) (by rw [List.length_map, hks, List.length_map]; have := hR.l; omega)
        obtain ⟨k, hkk, rfl⟩ := get_map hx
        have hb := hk k (List.mem_of_getElem? hkk)
        exact ⟨k, cs3, t + 1 + 1 + 1, hb.1, hb.2, c3, by omega, by omega, by simp [De4, gn, e2, gI, hq, e3]⟩
      · obtain ⟨r, cs3, r0, r1, c3, e3⟩ := take_ok cs2 (t + 1 + 1) 12 c2 (by omega) (by omega) (by omega) (by omega)
        exact ⟨r - 3, cs3, t + 1 + 1 + 1, by omega, by omega, c3, by omega, by omega, by simp [De4, gn, e2, gI, hq, e3, gSub_i]⟩
  have hcl : 0 < tb.2.length := List.length_pos_iff.mpr gt.2.ne
  have hc5 := gt.2.l
  obtain ⟨p, cs3, p0, p1, c3, e3⟩ := take_ok cs2 t2 (tb.2.length : Int) c2 (by omega) (by omega) (by omega) (by omega)
  obtain ⟨w, cs4, w0, w1, c4, e4⟩ := take_ok cs3 (t2 + 1) 10 c3 (by omega) (by omega) (by omega) (by omega)
  have f5 : De5 [sT cs2 t2, fT ts, some (.own (.lst (ct.map rowsD))), fI i, some (.fro (dL tb.1)), fC tb.2, some (.own (.lst (ks.map PyData.int))), none, fI k, none, none, none, none, none, none] = .nx [sT cs4 (t2 + 1 + 1), fT ts, some (.own (.lst (ct.map rowsD))), fI i, some (.fro (dL tb.1)), fC tb.2, some (.own (.lst (ks.map PyData.int))), none, fI k, fI p, fI w, none, none, none, none] := by
    simp [De5, gLen, e3, e4, two_le]
  have lo := lc_gen (p := .nm 7) (vs := [7]) (m := fE (oE (mOp gIx (oE (mVar 7)) (oE (mVar 9))))) (f := fun d => match gIx d (.int p) with
      | some (.val x) => x
      | _ => .none) (ε := [sT cs4 (t2 + 1 + 1), fT ts, some (.own (.lst (ct.map rowsD))), fI i, some (.fro (dL tb.1)), fC tb.2, some (.own (.lst (ks.map PyData.int))), none, fI k, fI p, fI w, none, none, none, none]) (ds := rs.map rowD) (acc := [])
    (fun d hd => by
      obtain ⟨r, hr, rfl⟩ := List.mem_map.mp hd
      obtain ⟨x, gx, _⟩ := row_wd (hR.g r hr) (p := p.toNat) (by omega)
      rw [show ((p.toNat : Nat) : Int) = p by omega] at gx
      exact ⟨_, _, by simp; rfl, by simp [gx]; rfl, by simp⟩) (by rw [sizeLine_eq, List.length_map]; have := hR.l; simp; omega)
  have ho : ∀ x ∈ (rs.map rowD).map (fun d => match gIx d (.int p) with
      | some (.val x) => x
      | _ => .none), Wd x := fun x hx => by
    obtain ⟨d, hd, rfl⟩ := List.mem_map.mp hx
    obtain ⟨r, hr, rfl⟩ := List.mem_map.mp hd
    obtain ⟨y, gy, hy⟩ := row_wd (hR.g r hr) (p := p.toNat) (by omega)
    rw [show ((p.toNat : Nat) : Int) = p by omega] at gy
    simp only [gy]
    exact hy
  have hol : ((rs.map rowD).map (fun d => match gIx d (.int p) with
      | some (.val x) => x
      | _ => .none)).length ≤ 10 := by rw [List.length_map, List.length_map]; exact hR.l
  rw [List.nil_append] at lo
  generalize (rs.map rowD).map (fun d => match gIx d (.int p) with
      | some (.val x) => x
      | _ => .none) = os at *
  have ga := gAdd_l (xs := os) (ys := [.none, .int 0]) (by simp; omega)
  have f6 : De6 [sT cs4 (t2 + 1 + 1), fT ts, some (.own (.lst (ct.map rowsD))), fI i, some (.fro (dL tb.1)), fC tb.2, some (.own (.lst (ks.map PyData.int))), none, fI k, fI p, fI w, none, none, none, none] = .nx (EnD ts ct cs4 (t2 + 1 + 1) i tb ks k p w (os ++ [.none, .int 0]) none none) := by
    unfold EnD
    simp only [De6, x_set, x_op, x_lc]
    simp [g2, itemsD, lo, two_le, ga]
  exact ⟨cs4, t2 + 1 + 1, i, tb, ks, k, p, w, os ++ [.none, .int 0], mtb, k1, k2, ⟨p0, p1⟩, ⟨w0, w1⟩, by simp, by simp; omega, (fun x hx => by
    rcases List.mem_append.mp hx with hx | hx
    · exact ho x hx
    · simp at hx
      rcases hx with rfl | rfl
      · exact .inl rfl
      · exact wd_int (by omega) (by omega)), c4, by omega, by omega, _, _, _, _, _, f1, f2, f3, f4, f5, f6⟩
end M5

namespace M5
open PySem PySem.Spec L2 M3 M4
open PyProof.Rows hiding St
theorem near_lc2 (ts : List TT) (ct : List (List RW)) (i : Nat) (tb : TT) (ks : List Int) (k p w : Int) (os : List D) (t : Int) (h1 : -2000000 ≤ k) (h2 : k ≤ 2000000) (ds : List D) (hl : ds.length ≤ 5) (cs : List Int) (hc : cs ≠ []) (ht : 0 ≤ t) (ht2 : t < 700000) :
    ∃ ws cs' t', ws.length = ds.length ∧ (∀ x ∈ ws, Wd x) ∧ cs' ≠ [] ∧ t ≤ t' ∧ t' ≤ t + 20 ∧
      lcLoop (.nm 13) [13] mYes (fE (oE (mCall 3 F_law_near (msCons (oE (mVar 0)) (msCons (oE (mVar 8)) (msCons (oE (mC (.int 3))) msNil)))))) ds [] (EnD ts ct cs t i tb ks k p w os none none) = .ok ws (EnD ts ct cs' t' i tb ks k p w os none none) := by
  obtain ⟨ws, ε', e, ⟨cs', t', c, t0, t1, hw, rfl⟩, hlen⟩ := lc_inv (p := .nm 13) (vs := [13]) (m := fE (oE (mCall 3 F_law_near (msCons (oE (mVar 0)) (msCons (oE (mVar 8)) (msCons (oE (mC (.int 3))) msNil))))))
    (fun acc ε => ∃ cs' t', cs' ≠ [] ∧ t ≤ t' ∧ t' ≤ t + 4 * (acc.length : Int) ∧ (∀ x ∈ acc, Wd x) ∧ ε = EnD ts ct cs' t' i tb ks k p w os none none) (N := 5) (by rw [sizeLine_eq]; omega) (ds := ds) (acc := []) (ε := EnD ts ct cs t i tb ks k p w os none none)
    ⟨cs, t, hc, by omega, by simp, (fun _ h => by cases h), rfl⟩ (fun d hd acc ε hI ha => by
      obtain ⟨cs1, t1, c1, t10, t11, hw, rfl⟩ := hI
      obtain ⟨y, cs2, t2, hy, c2, t20, t21, e2⟩ := near_ok cs1 t1 k 3 c1 (by omega) (by omega) h1 h2 (by omega) (by omega)
      refine ⟨_, y, _, by simp [EnD]; rfl, by simp [e2]; rfl, cs2, t2, c2, by omega, by simp; omega, fun x hx => ?_, by simp [EnD]⟩
      rcases List.mem_append.mp hx with hx | hx
      · exact hw x hx
      · rw [List.mem_singleton.mp hx]; exact hy) (by simpa using hl)
  simp at hlen
  exact ⟨ws, cs', t', hlen, hw, c, t0, by omega, e⟩
theorem str_fi {z : Str} (h : asc z = true) (hl : z.length ≤ 8) : Fi MM 62 0 (.str z) := fi_str h (by omega)
theorem nm_fi {l : List Nat} (h : Gn l) : Fi MM 62 0 (dL l) := fi_str h.sh.a (by have := h.sh.l; omega)
theorem flat_fi {xs : List D} (h : ∀ x ∈ xs, Fi MM 62 0 x) (hl : xs.length ≤ 6) : Fi MM 1000 2 (.tuple xs) :=
  ((fl_all h).tup).mono (Int.le_refl _) (by omega) (by omega)
def DeR : Sm := (sSeq De7 (sSeq De8 (sSeq De9 (sSeq De10 (sSeq De11 (sSeq De12 De13))))))
theorem col_at {cols : List TC} {p : Nat} (hp : p < cols.length) : ∃ c, cols[p]? = some c ∧ c ∈ cols ∧ gIx (.tuple (cols.map colD)) (.int (p : Int)) = some (.val (colD c)) ∧ gIx (colD c) (.int 0) = some (.val (dL c.1)) := by
  refine ⟨cols[p], List.getElem?_eq_getElem hp, List.getElem_mem hp, gIx_t (by rw [List.getElem?_map, List.getElem?_eq_getElem hp]; rfl), by simp [colD, gIx, atI, ixN]⟩
theorem rest_ok (ts : List TT) (hT : GoodT ts) (ct : List (List RW)) (i : Nat) (tb : TT) (htb : tb ∈ ts) (ks : List Int) (k p w : Int) (os : List D) (k1 : -2000000 ≤ k) (k2 : k ≤ 2000000) (hp : 0 ≤ p ∧ p < (tb.2.length : Int)) (hw : 0 ≤ w ∧ w < 10) (hos : os ≠ []) (hol : os.length ≤ 12) (ho : ∀ x ∈ os, Wd x)
    (cs : List Int) (t : Int) (hc : cs ≠ []) (ht : 0 ≤ t) (ht2 : t < 600000) :
    ∃ d cs' t' p' x y, pDeed ts d = true ∧ Fi MM 1000 2 d ∧ cs' ≠ [] ∧ t ≤ t' ∧ t' ≤ t + 30 ∧ DeR (EnD ts ct cs t i tb ks k p w os none none) = .rt (.fro d) (EnD ts ct cs' t' i tb ks k p' w os x y) := by
  have gt := hT.g tb htb
  have hf := find_of hT.nd htb
  have ntb := nm_fi gt.1
  have wk : Wd (.int k) := wd_int (by omega) (by omega)
  by_cases w2 : w < 2
  · obtain ⟨c, r, hcr, gs, hl⟩ := colsTail gt.2
    have hl5 := gt.2.l
    obtain ⟨ws, cs2, t2, hwl, hws, c2, t20, t21, e2⟩ := near_lc2 ts ct i tb ks k p w os t k1 k2 (r.map colD) (by rw [List.length_map]; omega) cs hc ht (by omega)
    obtain ⟨a, cs3, a0, a1, c3, e3⟩ := take_ok cs2 t2 9 c2 (by omega) (by omega) (by omega) (by omega)
    obtain ⟨b, cs4, b0, b1, c4, e4⟩ := take_ok cs3 (t2 + 1) 2 c3 (by omega) (by omega) (by omega) (by omega)
    rw [List.length_map] at hwl
    have hm : gMul (.int a) (.int b) = some (.val (.int (a * b))) := gMul_i (by omega)
    have hb : b = 0 ∨ b = 1 := by omega
    have hab : 0 ≤ a * b ∧ a * b < 9 := by
      rcases hb with rfl | rfl
      · simp
      · omega
    have wn : Wd (.int (k + a * b)) := wd_int (by omega) (by omega)
    have g : gAdd (.list [.int (k + a * b)]) (.list ws) = some (.newl (.int (k + a * b) :: ws)) := by
      have := gAdd_l (xs := [PyData.int (k + a * b)]) (ys := ws) (by simp; omega)
      simpa using this
    have h1s : (1 : Nat) ≤ sizeLine := by rw [sizeLine_eq]; omega
    have hrow : Fi MM 315 1 (.tuple (.int (k + a * b) :: ws)) := ((fl_all (xs := .int (k + a * b) :: ws) fun x hx => wd_fi (by
      rcases List.mem_cons.mp hx with rfl | hx
      · exact wn
      · exact hws x hx)).tup).mono (Int.le_refl _) (by rw [List.length_cons]; omega) (Nat.le_refl _)
    refine ⟨.tuple [.str "put", dL tb.1, .tuple (.int (k + a * b) :: ws)], cs4, t2 + 1 + 1, p, some (.own (.lst ws)), none, ?_, ?_, c4, by omega, by omega, ?_⟩
    · show (match findT ts (sL tb.1) with
        | none => false
        | some tb => pFit tb.2 "put" [.tuple (.int (k + a * b) :: ws)]) = true
      rw [hf]
      show (decide (ws.length + 1 = tb.2.length) && ((PyData.int (k + a * b) :: ws).all (pWorth BIG) && !isNoneD (.int (k + a * b)))) = true
      have q : (PyData.int (k + a * b) :: ws).all (pWorth BIG) = true := by
        rw [List.all_eq_true]
        intro x hx
        rcases List.mem_cons.mp hx with rfl | hx
        · exact wd_pw wn
        · exact wd_pw (hws x hx)
      rw [q, decide_eq_true (by omega)]
      rfl
    · exact (((FL.one (str_fi (z := "put") (by decide +kernel) (by decide +kernel))).mono (fun _ h => h) (Nat.le_refl _) (by omega)).app (((FL.one ntb).mono (fun _ h => h) (Nat.le_refl _) (by omega)).app (FL.one hrow))).tup.mono (Int.le_refl _) (by omega) (by omega)
    · simp only [EnD] at e2 ⊢
      simp only [DeR, De7, x_seq, x_if, x_set, x_lc]
      simp [gI, w2, gs, itemsD, e2, e3, e4, hm, gAdd_i, h1s, g, gTuple, M4.three_le]
  · by_cases w4 : w < 4
    · refine ⟨.tuple [.str "drop", dL tb.1, .int k], cs, t, p, none, none, ?_, ?_, hc, by omega, by omega, ?_⟩
      · show (match findT ts (sL tb.1) with
          | none => false
          | some tb => pFit tb.2 "drop" [.int k]) = true
        rw [hf]
        dsimp only
        unfold pFit
        rw [if_neg (by decide +kernel), if_pos rfl]
        show (true && pWorth BIG (.int k)) = true
        rw [wd_pw wk]; rfl
      · exact flat_fi (fun x hx => by
          simp only [List.mem_cons, List.not_mem_nil, or_false] at hx
          rcases hx with rfl | rfl | rfl
          · exact str_fi (by decide +kernel) (by decide +kernel)
          · exact ntb
          · exact wd_fi wk) (by simp)
      · simp only [EnD]
        simp [DeR, De7, De8, gI, w2, w4, M4.three_le]
    · obtain ⟨c, hc1, hcm, gc1, gc2⟩ := col_at (cols := tb.2) (p := p.toNat) (by omega)
      rw [show ((p.toNat : Nat) : Int) = p by omega] at gc1
      have gnc := (gt.2.g c hcm).1
      by_cases w6 : w < 6
      · obtain ⟨n, x, cs1, hx, c1, e1⟩ := some_own cs t os hc ht (by omega) hos (by omega)
        have wx := ho x (List.mem_of_getElem? hx)
        refine ⟨.tuple [.str "sweep", dL tb.1, dL c.1, x], cs1, t + 1, p, none, none, ?_, ?_, c1, by omega, by omega, ?_⟩
        · show (match findT ts (sL tb.1) with
            | none => false
            | some tb => pFit tb.2 "sweep" [dL c.1, x]) = true
          rw [hf]
          dsimp only
          unfold pFit
          rw [if_neg (by decide +kernel), if_neg (by decide +kernel), if_neg (by decide +kernel), if_pos rfl]
          show (hasC tb.2 (sL c.1) && pWorth BIG x) = true
          rw [has_of hcm, wd_pw wx]; rfl
        · exact flat_fi (fun y hy => by
            simp only [List.mem_cons, List.not_mem_nil, or_false] at hy
            rcases hy with rfl | rfl | rfl | rfl
            · exact str_fi (by decide +kernel) (by decide +kernel)
            · exact ntb
            · exact nm_fi gnc
            · exact wd_fi wx) (by simp)
        · have h4 : (4 : Nat) ≤ sizeLine := by rw [sizeLine_eq]; omega
          simp only [EnD]
          simp [DeR, De7, De8, De9, gI, w2, w4, w6, gc1, gc2, e1, h4]
      · by_cases w7 : w = 6
        · obtain ⟨a, cs1, a0, a1, c1, e1⟩ := take_ok cs t 9 hc ht (by omega) (by omega) (by omega)
          obtain ⟨b, cs2, b0, b1, c2, e2⟩ := take_ok cs1 (t + 1) 4 c1 (by omega) (by omega) (by omega) (by omega)
          obtain ⟨v, v1, v2, gv⟩ : ∃ v : Int, -10 ≤ v ∧ v ≤ 10 ∧ gIx (.list [.int 1, .int (-1), .int (a - 4), .int 0]) (.int b) = some (.val (.int v)) := by
            have : b = 0 ∨ b = 1 ∨ b = 2 ∨ b = 3 := by omega
            rcases this with rfl | rfl | rfl | rfl
            · exact ⟨1, by omega, by omega, by simp [gIx, atI, ixN]⟩
            · exact ⟨-1, by omega, by omega, by simp [gIx, atI, ixN]⟩
            · exact ⟨a - 4, by omega, by omega, by simp [gIx, atI, ixN]⟩
            · exact ⟨0, by omega, by omega, by simp [gIx, atI, ixN]⟩
          have wv : Wd (.int v) := wd_int (by omega) (by omega)
          refine ⟨.tuple [.str "shift", dL tb.1, dL c.1, .int v], cs2, t + 1 + 1, p, none, none, ?_, ?_, c2, by omega, by omega, ?_⟩
          · show (match findT ts (sL tb.1) with
              | none => false
              | some tb => pFit tb.2 "shift" [dL c.1, .int v]) = true
            rw [hf]
            dsimp only
            unfold pFit
            rw [if_neg (by decide +kernel), if_neg (by decide +kernel), if_neg (by decide +kernel), if_neg (by decide +kernel), if_pos rfl]
            show (hasC tb.2 (sL c.1) && (pWorth BIG (.int v) && true)) = true
            rw [has_of hcm, wd_pw wv]; rfl
          · exact flat_fi (fun y hy => by
              simp only [List.mem_cons, List.not_mem_nil, or_false] at hy
              rcases hy with rfl | rfl | rfl | rfl
              · exact str_fi (by decide +kernel) (by decide +kernel)
              · exact ntb
              · exact nm_fi gnc
              · exact wd_fi wv) (by simp)
          · have h4 : (4 : Nat) ≤ sizeLine := by rw [sizeLine_eq]; omega
            subst w7
            simp only [EnD]
            simp [DeR, De7, De8, De9, De10, gI, gEq_int, gc1, gc2, gNeg, e1, e2, gSub_i, gv, h4]
        · obtain ⟨b, cs1, b0, b1, c1, e1⟩ := take_ok cs t 2 hc ht (by omega) (by omega) (by omega)
          have n6 : (w == 6) = false := by simpa using w7
          have h5 : (5 : Nat) ≤ sizeLine := by rw [sizeLine_eq]; omega
          -- the place that is taken
          obtain ⟨p2, hp2, c', hc1', hcm', gc1', gc2', f11⟩ : ∃ p2 : Int, (0 ≤ p2 ∧ p2 < (tb.2.length : Int)) ∧ ∃ c', tb.2[p2.toNat]? = some c' ∧ c' ∈ tb.2 ∧ gIx (.tuple (tb.2.map colD)) (.int p2) = some (.val (colD c')) ∧ gIx (colD c') (.int 0) = some (.val (dL c'.1)) ∧
              De11 (EnD ts ct cs t i tb ks k p w os none none) = .nx (EnD ts ct cs1 (t + 1) i tb ks k p2 w os none none) := by
            by_cases hb : b = 0
            · subst hb
              have hm : gMul (.int p) (.int 1) = some (.val (.int p)) := by rw [gMul_i (by omega)]; simp
              refine ⟨p, hp, c, hc1, hcm, gc1, gc2, ?_⟩
              simp only [EnD]
              simp [De11, e1, gEq_int, gInt, hm]
            · have hm : gMul (.int p) (.int 0) = some (.val (.int 0)) := by rw [gMul_i (by omega)]; simp
              obtain ⟨c', q1, q2, q3, q4⟩ := col_at (cols := tb.2) (p := 0) (by omega)
              refine ⟨0, ⟨by omega, by omega⟩, c', q1, q2, q3, q4, ?_⟩
              simp only [EnD]
              simp [De11, e1, gEq_int, hb, gInt, hm]
          have gnc' := (gt.2.g c' hcm').1
          have skip : DeR (EnD ts ct cs t i tb ks k p w os none none) = (sSeq De12 De13) (EnD ts ct cs1 (t + 1) i tb ks k p2 w os none none) := by
            have q : (sSeq De7 (sSeq De8 (sSeq De9 (sSeq De10 (sSeq De11 (sSeq De12 De13)))))) (EnD ts ct cs t i tb ks k p w os none none) = (sSeq De11 (sSeq De12 De13)) (EnD ts ct cs t i tb ks k p w os none none) := by
              generalize (sSeq De11 (sSeq De12 De13)) = T
              simp only [EnD]
              simp [De7, De8, De9, De10, gI, w2, w4, w6, gEq_int, n6]
            unfold DeR
            rw [q, x_seq, f11, x_q1]
          have fin : ∀ (d : D) (cs' : List Int) (t' : Int), Wd d → (p2 = 0 → isNoneD d = false) → cs' ≠ [] → t ≤ t' → t' ≤ t + 30 → De12 (EnD ts ct cs1 (t + 1) i tb ks k p2 w os none none) = .nx (EnD ts ct cs' t' i tb ks k p2 w os none (some (.fro d))) →
              ∃ d cs' t' p' x y, pDeed ts d = true ∧ Fi MM 1000 2 d ∧ cs' ≠ [] ∧ t ≤ t' ∧ t' ≤ t + 30 ∧ DeR (EnD ts ct cs t i tb ks k p w os none none) = .rt (.fro d) (EnD ts ct cs' t' i tb ks k p' w os x y) := fun d cs' t' wd hnn cc t0 t1 f12 => by
            refine ⟨.tuple [.str "set", dL tb.1, .int k, dL c'.1, d], cs', t', p2, none, some (.fro d), ?_, ?_, cc, t0, t1, ?_⟩
            · show (match findT ts (sL tb.1) with
                | none => false
                | some tb => pFit tb.2 "set" [.int k, dL c'.1, d]) = true
              rw [hf]
              dsimp only
              unfold pFit
              rw [if_neg (by decide +kernel), if_neg (by decide +kernel), if_pos rfl]
              show ((true && pWorth BIG (.int k)) && (hasC tb.2 (sL c'.1) && (pWorth BIG d && !(isNoneD d && keyC tb.2 (sL c'.1))))) = true
              rw [wd_pw wk, has_of hcm', wd_pw wd]
              by_cases h0 : p2 = 0
              · rw [hnn h0]; rfl
              · rw [key_not gt.2.nd hc1' (by omega)]
                cases isNoneD d <;> rfl
            · exact flat_fi (fun y hy => by
                simp only [List.mem_cons, List.not_mem_nil, or_false] at hy
                rcases hy with rfl | rfl | rfl | rfl | rfl
                · exact str_fi (by decide +kernel) (by decide +kernel)
                · exact ntb
                · exact wd_fi wk
                · exact nm_fi gnc'
                · exact wd_fi wd) (by simp)
            · rw [skip, x_seq, f12, x_q1]
              simp only [EnD]
              simp [De13, gc1', gc2', h5]
          by_cases h0 : p2 = 0
          · obtain ⟨a, cs2, a0, a1, c2, e2⟩ := take_ok cs1 (t + 1) 12 c1 (by omega) (by omega) (by omega) (by omega)
            refine fin (.int (k + a - 4)) cs2 (t + 1 + 1) (wd_int (by omega) (by omega)) (fun _ => rfl) c2 (by omega) (by omega) ?_
            subst h0
            simp only [EnD]
            simp [De12, gEq_int, e2, gAdd_i, gSub_i]
          · obtain ⟨y, cs2, t2, hy, c2, t20, t21, e2⟩ := near_ok cs1 (t + 1) k 3 c1 (by omega) (by omega) k1 k2 (by omega) (by omega)
            obtain ⟨n, x, cs3, hx, c3, e3⟩ := some_get cs2 t2 (.list (os ++ [y])) (os ++ [y]) (.inr rfl) c2 (by omega) (by omega) (by simp) (by rw [List.length_append, List.length_singleton]; omega)
            have wx : Wd x := by
              rcases List.mem_append.mp (List.mem_of_getElem? hx) with q | q
              · exact ho x q
              · rw [List.mem_singleton.mp q]; exact hy
            have ga := gAdd_l (xs := os) (ys := [y]) (by simp; omega)
            have h1s : (1 : Nat) ≤ sizeLine := by rw [sizeLine_eq]; omega
            refine fin x cs3 (t2 + 1) wx (fun h => absurd h h0) c3 (by omega) (by omega) ?_
            simp only [EnD]
            simp [De12, gEq_int, h0, e2, h1s, ga, e3]
theorem deed_ok (ts : List TT) (hT : GoodT ts) (hne : ts ≠ []) (hl : ts.length ≤ 26) (ct : List (List RW)) (hC : GoodCt ts ct) (cs : List Int) (t : Int) (hc : cs ≠ []) (ht : 0 ≤ t) (ht2 : t < 500000) :
    ∃ d cs' t', pDeed ts d = true ∧ Fi MM 1000 2 d ∧ cs' ≠ [] ∧ t ≤ t' ∧ t' ≤ t + 40 ∧ F_law_deed [sT cs t, fT ts, some (.own (.lst (ct.map rowsD)))] = .ok (.fro d) [sT cs' t', fT ts, some (.own (.lst (ct.map rowsD)))] := by
  obtain ⟨cs1, t1, i, tb, ks, k, p, w, os, htb, k1, k2, hp, hw, hos, hol, ho, c1, t10, t11, E1, E2, E3, E4, E5, f1, f2, f3, f4, f5, f6⟩ := pre_ok ts hT hne hl ct hC cs t hc ht (by omega)
  obtain ⟨d, cs2, t2, p', x, y, pd, fd, c2, t20, t21, f7⟩ := rest_ok ts hT ct i tb htb ks k p w os k1 k2 hp hw hos hol ho cs1 t1 c1 (by omega) (by omega)
  refine ⟨d, cs2, t2, pd, fd, c2, by omega, by omega, ?_⟩
  refine fn_rt (E := [sT cs t, fT ts, some (.own (.lst (ct.map rowsD))), none, none, none, none, none, none, none, none, none, none, none, none]) (by simp) (by simp) rfl (ε' := EnD ts ct cs2 t2 i tb ks k p' w os x y) ?_ (by simp [EnD])
  rw [B_law_deed_is, x_seq, f1, x_q1, x_seq, f2, x_q1, x_seq, f3, x_q1, x_seq, f4, x_q1, x_seq, f5, x_q1, x_seq, f6, x_q1]
  exact f7
end M5

namespace M5
open PySem PySem.Spec L2 M3 M4
open PyProof.Rows hiding St
/-! ### bends, weighed closer -/
end M5

namespace GC
open PySem PySem.Spec L2 M3 M4 M5
open PyProof.Rows hiding St
def B_table_place : Sm := (sSeq (sFor (mEnum (dsCons (fE (oE (mVar 0))) dsNil)) (.tp [(.nm 2), (.tp [(.nm 3), (.nm 4)])]) (sIf (mBl (mOp (bo gEq) (oE (mVar 3)) (oE (mVar 1)))) (sRet (mVar 2)) sNext))
    (sRaise "NoSuch" ["what", "name"] (dsCons (fE (oE (mC (.str "table")))) (dsCons (fE (oE (mVar 1))) dsNil))))
def F_table_place : M RV := fnF [0, 1] 5 (B_table_place)
def B_columns_of : Sm := (sRet (mOp gIx (oE (mOp gIx (oE (mVar 0)) (oE (mCall 2 F_table_place (msCons (oE (mVar 0)) (msCons (oE (mVar 1)) msNil)))))) (oE (mC (.int 1)))))
def F_columns_of : M RV := fnF [0, 1] 2 (B_columns_of)
def B_column_place : Sm := (sSeq (sFor (mEnum (dsCons (fE (oE (mCall 2 F_columns_of (msCons (oE (mVar 0)) (msCons (oE (mVar 1)) msNil))))) dsNil)) (.tp [(.nm 3), (.tp [(.nm 4), (.nm 5)])]) (sIf (mBl (mOp (bo gEq) (oE (mVar 4)) (oE (mVar 2)))) (sRet (mVar 3)) sNext))
    (sRaise "NoSuch" ["what", "name"] (dsCons (fE (oE (mC (.str "column")))) (dsCons (fE (oE (mVar 2))) dsNil))))
def F_column_place : M RV := fnF [0, 1, 2] 6 (B_column_place)
def B_rows_of : Sm := (sRet (mOp gIx (oE (mVar 1)) (oE (mCall 2 F_table_place (msCons (oE (mVar 0)) (msCons (oE (mVar 2)) msNil))))))
def F_rows_of : M RV := fnF [0, 1, 2] 3 (B_rows_of)
def B_row_of : Sm := (sSeq (sFor (mIt (fE (oE (mCall 3 F_rows_of (msCons (oE (mVar 0)) (msCons (oE (mVar 1)) (msCons (oE (mVar 2)) msNil))))))) (.nm 4) (sIf (mBl (mOp (bo gEq) (oE (mOp gIx (oE (mVar 4)) (oE (mC (.int 0))))) (oE (mVar 3)))) (sRet (mCallB gTuple (msCons (oE (mVar 4)) msNil))) sNext))
    (sRet (mC .none)))
def F_row_of : M RV := fnF [0, 1, 2, 3] 5 (B_row_of)
def B_law_take : Sm := (sSeq (sIf (mBl (mOp (bo gGt) (oE (mOp gIx (oE (mVar 0)) (oE (mC (.int 0))))) (oE (mC (.int 0))))) (sSeq (sSet 2 (mOp gMod (oE (mOp gIx (oE (mVar 0)) (oE (mC (.int 0))))) (oE (mVar 1))))
    (sSeq (sSetItem 0 (oE (mC (.int 0))) (fE (oE (mOp gDiv (oE (mOp gIx (oE (mVar 0)) (oE (mC (.int 0))))) (oE (mVar 1))))))
    (sRet (mVar 2)))) sNext)
    (sSeq (sSetItem 0 (oE (mC (.int 2))) (fE (oE (mOp gAdd (oE (mOp gIx (oE (mVar 0)) (oE (mC (.int 2))))) (oE (mC (.int 1)))))))
    (sSeq (sSet 3 (mOp gMod (oE (mOp gPow (oE (mOp gAdd (oE (mOp gIx (oE (mVar 0)) (oE (mC (.int 1))))) (oE (mOp gMul (oE (mC (.int 39373))) (oE (mOp gIx (oE (mVar 0)) (oE (mC (.int 2))))))))) (oE (mC (.int 5))))) (oE (mC (.int 2147483647)))))
    (sRet (mOp gMod (oE (mOp gDiv (oE (mOp gMod (oE (mOp gAdd (oE (mOp gMul (oE (mVar 3)) (oE (mOp gAdd (oE (mOp gMod (oE (mVar 3)) (oE (mC (.int 40009))))) (oE (mC (.int 7))))))) (oE (mOp gMul (oE (mOp gIx (oE (mVar 0)) (oE (mC (.int 2))))) (oE (mC (.int 7919))))))) (oE (mC (.int 2147483629))))) (oE (mC (.int 64))))) (oE (mVar 1)))))))
def F_law_take : M RV := fnF [0, 1] 4 (B_law_take)
def B_law_names : Sm := (sSeq (sUnp (fE (oE (mTup (dsCons (fE (oE (mC (.str "abcdefghijklmnopqrstuvwxyz")))) (dsCons (fE (oE (mCall 2 F_law_take (msCons (oE (mVar 0)) (msCons (oE (mC (.int 676))) msNil))))) (dsCons (fE (oE (mCall 2 F_law_take (msCons (oE (mVar 0)) (msCons (oE (mC (.int 5))) msNil))))) dsNil)))))) (.tp [(.nm 2), (.nm 3), (.nm 4)]))
    (sSeq (sSet 5 (mOp gIx (oE (mLst (dsCons (fE (oE (mC (.int 1)))) (dsCons (fE (oE (mC (.int 3)))) (dsCons (fE (oE (mC (.int 5)))) (dsCons (fE (oE (mC (.int 7)))) (dsCons (fE (oE (mC (.int 25)))) (dsCons (fE (oE (mC (.int 675)))) dsNil)))))))) (oE (mCall 2 F_law_take (msCons (oE (mVar 0)) (msCons (oE (mC (.int 6))) msNil))))))
    (sSeq (sIf (mBl (mOp (bo gEq) (oE (mVar 4)) (oE (mC (.int 0))))) (sSeq (sSet 6 (mBM gSplit (oE (mC (.str "store row put drop set tie rule table old new to gone"))) (msCons (oE (mC (.str " "))) msNil)))
    (sRet (mSl gSl (oE (mSl gSl (oE (mOp gAdd (oE (mVar 6)) (oE (mVar 6)))) (mPart (oE (mOp gMod (oE (mVar 3)) (oE (mC (.int 12)))))) mNoPart)) mNoPart (mPart (oE (mVar 1)))))) sNext)
    (sSeq (sIf (mBl (mOp (bo gEq) (oE (mVar 4)) (oE (mC (.int 1))))) (sRet (mLc (mRng1 (msCons (oE (mVar 1)) msNil)) (.nm 7) [7] mYes (fE (oE (mOp gIx (oE (mVar 2)) (oE (mOp gMod (oE (mOp gAdd (oE (mVar 3)) (oE (mOp gMul (oE (mVar 5)) (oE (mVar 7)))))) (oE (mC (.int 26)))))))))) sNext)
    (sSeq (sSet 8 (mBM gJoin (oE (mC (.str ""))) (msCons (oE (mLc (mRng1 (msCons (oE (mCall 2 F_law_take (msCons (oE (mVar 0)) (msCons (oE (mC (.int 4))) msNil)))) msNil)) (.nm 9) [9] mYes (fE (oE (mOp gIx (oE (mVar 2)) (oE (mCall 2 F_law_take (msCons (oE (mVar 0)) (msCons (oE (mC (.int 26))) msNil))))))))) msNil)))
    (sSeq (sSet 10 (mBM gJoin (oE (mC (.str ""))) (msCons (oE (mLc (mRng1 (msCons (oE (mCall 2 F_law_take (msCons (oE (mVar 0)) (msCons (oE (mC (.int 3))) msNil)))) msNil)) (.nm 9) [9] mYes (fE (oE (mOp gIx (oE (mVar 2)) (oE (mCall 2 F_law_take (msCons (oE (mVar 0)) (msCons (oE (mC (.int 26))) msNil))))))))) msNil)))
    (sSeq (sPar [11, 12] (msCons (mCall 2 F_law_take (msCons (oE (mVar 0)) (msCons (oE (mC (.int 2))) msNil))) (msCons (mLst dsNil) msNil)))
    (sSeq (sFor (mRng1 (msCons (oE (mVar 1)) msNil)) (.nm 7) (sSeq (sSet 13 (mOp gMod (oE (mOp gAdd (oE (mVar 3)) (oE (mOp gMul (oE (mVar 5)) (oE (mVar 7)))))) (oE (mC (.int 676)))))
    (sSeq (sSet 14 (mOp gAdd (oE (mOp gAdd (oE (mOp gAdd (oE (mVar 8)) (oE (mOp gIx (oE (mVar 2)) (oE (mOp gDiv (oE (mVar 13)) (oE (mC (.int 26))))))))) (oE (mOp gIx (oE (mVar 2)) (oE (mOp gMod (oE (mVar 13)) (oE (mC (.int 26))))))))) (oE (mVar 10))))
    (sSeq (sIf (mAnd (mBl (mOp (bo gEq) (oE (mVar 11)) (oE (mC (.int 1))))) (mBl (mOp (bo gEq) (oE (mOp gMod (oE (mVar 7)) (oE (mC (.int 2))))) (oE (mC (.int 1)))))) (sSet 14 (mOp gAdd (oE (mOp gIx (oE (mVar 12)) (oE (mUn gNeg (oE (mC (.int 1))))))) (oE (mOp gIx (oE (mVar 2)) (oE (mOp gMod (oE (mOp gAdd (oE (mVar 3)) (oE (mVar 7)))) (oE (mC (.int 26))))))))) sNext)
    (sAppend 12 (fE (oE (mVar 14))))))))
    (sRet (mVar 12))))))))))
def F_law_names : M RV := fnF [0, 1] 15 (B_law_names)
def B_law_tables : Sm := (sSeq (sPar [2, 3] (msCons (mLst dsNil) (msCons (mCall 2 F_law_names (msCons (oE (mVar 0)) (msCons (oE (mC (.int 5))) msNil))) msNil)))
    (sSeq (sFor (mIt (fE (oE (mCall 2 F_law_names (msCons (oE (mVar 0)) (msCons (oE (mOp gAdd (oE (mC (.int 1))) (oE (mCall 2 F_law_take (msCons (oE (mVar 0)) (msCons (oE (mVar 1)) msNil)))))) msNil)))))) (.nm 4) (sSeq (sSet 5 (mSl gSl (oE (mOp gIx (oE (mLst (dsCons (fE (oE (mVar 3))) (dsCons (fE (oE (mCall 2 F_law_names (msCons (oE (mVar 0)) (msCons (oE (mC (.int 5))) msNil))))) dsNil)))) (oE (mCall 2 F_law_take (msCons (oE (mVar 0)) (msCons (oE (mC (.int 2))) msNil)))))) mNoPart (mPart (oE (mOp gAdd (oE (mC (.int 1))) (oE (mCall 2 F_law_take (msCons (oE (mVar 0)) (msCons (oE (mC (.int 5))) msNil)))))))))
    (sSeq (sSet 6 (mLst (dsCons (fE (oE (mTup (dsCons (fE (oE (mOp gIx (oE (mVar 5)) (oE (mC (.int 0)))))) (dsCons (fE (oE (mC .none))) dsNil))))) dsNil)))
    (sSeq (sFor (mIt (fE (oE (mSl gSl (oE (mVar 5)) (mPart (oE (mC (.int 1)))) mNoPart)))) (.nm 7) (sAppend 6 (fE (oE (mTup (dsCons (fE (oE (mVar 7))) (dsCons (fE (oE (mOp gIx (oE (mLst (dsCons (fE (oE (mC .none))) (dsCons (fE (oE (mOp M3.gSub (oE (mCall 2 F_law_take (msCons (oE (mVar 0)) (msCons (oE (mC (.int 9))) msNil)))) (oE (mC (.int 3)))))) (dsCons (fE (oE (mOp gPow (oE (mC (.int 10))) (oE (mC (.int 9)))))) dsNil))))) (oE (mCall 2 F_law_take (msCons (oE (mVar 0)) (msCons (oE (mC (.int 3))) msNil))))))) dsNil)))))))
    (sAppend 2 (fE (oE (mTup (dsCons (fE (oE (mVar 4))) (dsCons (fE (oE (mCallB gTuple (msCons (oE (mVar 6)) msNil)))) dsNil))))))))))
    (sRet (mCallB gTuple (msCons (oE (mVar 2)) msNil)))))
def F_law_tables : M RV := fnF [0, 1] 8 (B_law_tables)
def B_law_place : Sm := (sRet (mBML gIndex (oE (mLc (mIt (fE (oE (mVar 0)))) (.tp [(.nm 2), (.nm 3)]) [2, 3] mYes (fE (oE (mVar 2))))) (msCons (oE (mVar 1)) msNil)))
def F_law_place : M RV := fnF [0, 1] 4 (B_law_place)
def B_law_content : Sm := (sSeq (sPar [4, 5] (msCons (mLst dsNil) (msCons (mLst dsNil) msNil)))
    (sSeq (sFor (mIt (fE (oE (mVar 1)))) (.nm 6) (sSeq (sSet 7 (mLc (mRng1 (msCons (oE (mCall 2 F_law_take (msCons (oE (mVar 0)) (msCons (oE (mOp gAdd (oE (mVar 3)) (oE (mC (.int 1))))) msNil)))) msNil)) (.nm 8) [8] mYes (fE (oE (mOp M3.gSub (oE (mCall 2 F_law_take (msCons (oE (mVar 0)) (msCons (oE (mC (.int 12))) msNil)))) (oE (mC (.int 3))))))))
    (sAppend 4 (fE (oE (mSortSet (oE (mOp gAdd (oE (mVar 7)) (oE (mOp gMul (oE (mLst (dsCons (fE (oE (mOp gPow (oE (mC (.int 10))) (oE (mC (.int 9)))))) dsNil))) (oE (mCallB gInt (msCons (oE (mOp (bo gEq) (oE (mCall 2 F_law_take (msCons (oE (mVar 0)) (msCons (oE (mC (.int 9))) msNil)))) (oE (mC (.int 0))))) msNil)))))))))))))
    (sSeq (sFor (mEnum (dsCons (fE (oE (mVar 1))) dsNil)) (.tp [(.nm 9), (.tp [(.nm 6), (.nm 10)])]) (sSeq (sSet 11 (mLst dsNil))
    (sSeq (sFor (mIt (fE (oE (mOp gIx (oE (mVar 4)) (oE (mVar 9)))))) (.nm 12) (sSeq (sSet 13 (mLst (dsCons (fE (oE (mVar 12))) dsNil)))
    (sSeq (sFor (mIt (fE (oE (mSl gSl (oE (mVar 10)) (mPart (oE (mC (.int 1)))) mNoPart)))) (.tp [(.nm 14), (.nm 15)]) (sSeq (sSet 16 (mLc (mIt (fE (oE (mVar 2)))) (.nm 17) [17] (mBl (mOp (bo gEq) (oE (mSl gSl (oE (mVar 17)) (mPart (oE (mC (.int 1)))) (mPart (oE (mC (.int 3)))))) (oE (mTup (dsCons (fE (oE (mVar 6))) (dsCons (fE (oE (mVar 14))) dsNil)))))) (fE (oE (mOp gIx (oE (mVar 17)) (oE (mC (.int 3))))))))
    (sSeq (sSet 7 (mLst (dsCons (fE (oE (mC (.int 0)))) (dsCons (fE (oE (mC (.int 1)))) (dsCons (fE (oE (mC (.int 2)))) dsNil)))))
    (sSeq (sIf (mBl (mOp (bo gNe) (oE (mVar 16)) (oE (mLst dsNil)))) (sSet 7 (mOp gIx (oE (mVar 4)) (oE (mCall 2 F_law_place (msCons (oE (mVar 1)) (msCons (oE (mOp gIx (oE (mVar 16)) (oE (mCall 2 F_law_take (msCons (oE (mVar 0)) (msCons (oE (mCallB gLen (msCons (oE (mVar 16)) msNil))) msNil)))))) msNil)))))) sNext)
    (sSeq (sSet 18 (mOp gAdd (oE (mLst (dsCons (fE (oE (mC .none))) (dsCons (fE (oE (mVar 15))) (dsCons (fE (oE (mOp M3.gSub (oE (mCall 2 F_law_take (msCons (oE (mVar 0)) (msCons (oE (mC (.int 12))) msNil)))) (oE (mC (.int 3)))))) dsNil))))) (oE (mSl gSl (oE (mOp gAdd (oE (mOp gAdd (oE (mVar 7)) (oE (mVar 7)))) (oE (mVar 7)))) mNoPart (mPart (oE (mC (.int 24))))))))
    (sAppend 13 (fE (oE (mOp gIx (oE (mVar 18)) (oE (mCall 2 F_law_take (msCons (oE (mVar 0)) (msCons (oE (mCallB gLen (msCons (oE (mVar 18)) msNil))) msNil)))))))))))))
    (sAppend 11 (fE (oE (mCallB gTuple (msCons (oE (mVar 13)) msNil))))))))
    (sAppend 5 (fE (oE (mVar 11)))))))
    (sRet (mVar 5)))))
def F_law_content : M RV := fnF [0, 1, 2, 3] 19 (B_law_content)
def B_law_same (G : M RV) : Sm := (sSeq (sIf (mTru (oE (mIsi2 "list" "tuple" (oE (mVar 1))))) (sSeq (sIf (mOr (mBl (mOp (bo gNe) (oE (mIsi "list" (oE (mVar 0)))) (oE (mIsi "list" (oE (mVar 1)))))) (mBl (mOp (bo gNe) (oE (mIsi "tuple" (oE (mVar 0)))) (oE (mIsi "tuple" (oE (mVar 1))))))) (sRet (mC (.bool false))) sNext)
    (sRet (mAndV (oE (mOp (bo gEq) (oE (mCallB gLen (msCons (oE (mVar 0)) msNil))) (oE (mCallB gLen (msCons (oE (mVar 1)) msNil))))) (mCallB gAll (msCons (oE (mLc (mZip (dsCons (fE (oE (mVar 0))) (dsCons (fE (oE (mVar 1))) dsNil))) (.tp [(.nm 2), (.nm 3)]) [2, 3] mYes (fE (oE (mCall 2 G (msCons (oE (mVar 2)) (msCons (oE (mVar 3)) msNil))))))) msNil))))) sNext)
    (sSeq (sIf (mOr (mBl (mOp (bo gIsN) (oE (mVar 1)) (oE (mC .none)))) (mTru (oE (mIsi2 "bool" "str" (oE (mVar 1)))))) (sRet (mAndV (oE (mOp (bo gEq) (oE (mVar 0)) (oE (mVar 1)))) (mAndV (oE (mOp (bo gEq) (oE (mIsi "bool" (oE (mVar 0)))) (oE (mIsi "bool" (oE (mVar 1)))))) (mOp (bo gEq) (oE (mOp (bo gIsN) (oE (mVar 0)) (oE (mC .none)))) (oE (mOp (bo gIsN) (oE (mVar 1)) (oE (mC .none)))))))) sNext)
    (sRet (mAndV (oE (mIsi "int" (oE (mVar 0)))) (mAndV (oE (mNotV (oE (mIsi "bool" (oE (mVar 0)))))) (mOp (bo gEq) (oE (mVar 0)) (oE (mVar 1))))))))
def F_law_same : Nat → M RV
  | 0 => fun _ => .bad
  | n + 1 => fnF [0, 1] 4 (B_law_same (F_law_same n))
end GC

namespace GC
open PySem PySem.Spec L2 M3 M4 M5
open PyProof.Rows hiding St
/-- a box after so many draws -/
def Bx (T : Int) (L : List D) : Prop := ∃ a b c : Int, 0 ≤ a ∧ 0 ≤ b ∧ b < 2306000000000000000 ∧ 0 ≤ c ∧ c ≤ T ∧ L = [.int a, .int b, .int c]
theorem Bx.mono {T U : Int} {L : List D} (h : Bx T L) (e : T ≤ U) : Bx U L := by
  obtain ⟨a, b, c, h1, h2, h3, h4, h5, h6⟩ := h
  exact ⟨a, b, c, h1, h2, h3, h4, by omega, h6⟩
abbrev sB (L : List D) : Option SV := some (.own (.lst L))
theorem takeB {T m : Int} {L : List D} (h : Bx T L) (hT : T < 900000) (hm : 0 < m) (hm2 : m < 2 ^ 60) :
    ∃ k L', 0 ≤ k ∧ k < m ∧ Bx (T + 1) L' ∧ F_law_take [sB L, fI m] = .ok (.fro (.int k)) [sB L', fI m] := by
  obtain ⟨a, b, c, a0, b0, b1, c0, cT, rfl⟩ := h
  have g0 : ∀ a b c : Int, gIx (.list [.int a, .int b, .int c]) (.int 0) = some (.val (.int a)) := fun a b c => by simp [gIx, atI, ixN]
  have g1 : ∀ a b c : Int, gIx (.list [.int a, .int b, .int c]) (.int 1) = some (.val (.int b)) := fun a b c => by simp [gIx, atI, ixN]
  have g2 : ∀ a b c : Int, gIx (.list [.int a, .int b, .int c]) (.int 2) = some (.val (.int c)) := fun a b c => by simp [gIx, atI, ixN]
  by_cases ha : 0 < a
  · have e1 := gMod_i (a := a) hm
    have e2 := gDiv_i (a := a) hm (lg hm hm2)
    exact ⟨a % m, [.int (a / m), .int b, .int c], Int.emod_nonneg _ (by omega), Int.emod_lt_of_pos _ hm, ⟨a / m, b, c, Int.ediv_nonneg a0 (by omega), b0, b1, c0, by omega, rfl⟩, by simp [F_law_take, B_law_take, g0, gI, ha, e1, e2, ixN]⟩
  · have h0 : a = 0 := by omega
    subst h0
    have m1 : gMul (.int 39373) (.int (c + 1)) = some (.val (.int (39373 * (c + 1)))) := gMul_i (by omega)
    have p1 : gPow (.int (b + 39373 * (c + 1))) (.int 5) = some (.val (.int ((b + 39373 * (c + 1)) ^ (5 : Int).toNat))) := by
      show (if _ then _ else _) = _
      rw [if_pos ⟨by omega, by omega, by omega⟩]
    generalize (b + 39373 * (c + 1)) ^ (5 : Int).toNat = w at p1
    have d1 := gMod_i (a := w) (b := 2147483647) (by omega)
    obtain ⟨x, hx⟩ : ∃ x, x = w % 2147483647 := ⟨_, rfl⟩
    have x0 : 0 ≤ x := by rw [hx]; exact Int.emod_nonneg _ (by omega)
    have x1 : x < 2147483647 := by rw [hx]; exact Int.emod_lt_of_pos _ (by omega)
    rw [← hx] at d1
    have d2 := gMod_i (a := x) (b := 40009) (by omega)
    obtain ⟨y, hy⟩ : ∃ y, y = x % 40009 := ⟨_, rfl⟩
    have y0 : 0 ≤ y := by rw [hy]; exact Int.emod_nonneg _ (by omega)
    have y1 : y < 40009 := by rw [hy]; exact Int.emod_lt_of_pos _ (by omega)
    rw [← hy] at d2
    have m2 : gMul (.int x) (.int (y + 7)) = some (.val (.int (x * (y + 7)))) := gMul_i (by omega)
    have m3 : gMul (.int (c + 1)) (.int 7919) = some (.val (.int ((c + 1) * 7919))) := gMul_i (by omega)
    have d3 := gMod_i (a := x * (y + 7) + (c + 1) * 7919) (b := 2147483629) (by omega)
    generalize (x * (y + 7) + (c + 1) * 7919) % 2147483629 = u at *
    have q2 := gDiv_i (a := u) (b := 64) (by omega) (lg (by omega) (by omega))
    have d4 := gMod_i (a := u / 64) hm
    refine ⟨u / 64 % m, [.int 0, .int b, .int (c + 1)], Int.emod_nonneg _ (by omega), Int.emod_lt_of_pos _ hm, ⟨0, b, c + 1, by omega, b0, b1, by omega, by omega, rfl⟩, ?_⟩
    simp [F_law_take, B_law_take, g0, g1, g2, gI, gAdd_i, ixN, m1, p1, d1, d2, m2, m3, d3, q2, d4]
theorem fn_rn {own : List Nat} {N : Nat} {body : Sm} {ε E ε' εo : En} {o : OV} (hp : parOk own 0 ε = true) (hl : ε.length ≤ N) (hE : ε ++ List.replicate (N - ε.length) none = E) (hb : body E = .rt (.new o) ε') (ho : outE own ε' 0 ε = εo) : fnF own N body ε = .ok (.new o) εo := by
  rw [x_fnF, if_pos ⟨hp, hl⟩, hE, hb, ← ho]
end GC

namespace GC
open PySem PySem.Spec L2 M3 M4 M5
open PyProof.Rows hiding St
def Nm1 : Sm := (sUnp (fE (oE (mTup (dsCons (fE (oE (mC (.str "abcdefghijklmnopqrstuvwxyz")))) (dsCons (fE (oE (mCall 2 F_law_take (msCons (oE (mVar 0)) (msCons (oE (mC (.int 676))) msNil))))) (dsCons (fE (oE (mCall 2 F_law_take (msCons (oE (mVar 0)) (msCons (oE (mC (.int 5))) msNil))))) dsNil)))))) (.tp [(.nm 2), (.nm 3), (.nm 4)]))
def Nm2 : Sm := (sSet 5 (mOp gIx (oE (mLst (dsCons (fE (oE (mC (.int 1)))) (dsCons (fE (oE (mC (.int 3)))) (dsCons (fE (oE (mC (.int 5)))) (dsCons (fE (oE (mC (.int 7)))) (dsCons (fE (oE (mC (.int 25)))) (dsCons (fE (oE (mC (.int 675)))) dsNil)))))))) (oE (mCall 2 F_law_take (msCons (oE (mVar 0)) (msCons (oE (mC (.int 6))) msNil))))))
def Nm3 : Sm := (sIf (mBl (mOp (bo gEq) (oE (mVar 4)) (oE (mC (.int 0))))) (sSeq (sSet 6 (mBM gSplit (oE (mC (.str "store row put drop set tie rule table old new to gone"))) (msCons (oE (mC (.str " "))) msNil)))
    (sRet (mSl gSl (oE (mSl gSl (oE (mOp gAdd (oE (mVar 6)) (oE (mVar 6)))) (mPart (oE (mOp gMod (oE (mVar 3)) (oE (mC (.int 12)))))) mNoPart)) mNoPart (mPart (oE (mVar 1)))))) sNext)
def Nm4 : Sm := (sIf (mBl (mOp (bo gEq) (oE (mVar 4)) (oE (mC (.int 1))))) (sRet (mLc (mRng1 (msCons (oE (mVar 1)) msNil)) (.nm 7) [7] mYes (fE (oE (mOp gIx (oE (mVar 2)) (oE (mOp gMod (oE (mOp gAdd (oE (mVar 3)) (oE (mOp gMul (oE (mVar 5)) (oE (mVar 7)))))) (oE (mC (.int 26)))))))))) sNext)
def Nm5 : Sm := (sSet 8 (mBM gJoin (oE (mC (.str ""))) (msCons (oE (mLc (mRng1 (msCons (oE (mCall 2 F_law_take (msCons (oE (mVar 0)) (msCons (oE (mC (.int 4))) msNil)))) msNil)) (.nm 9) [9] mYes (fE (oE (mOp gIx (oE (mVar 2)) (oE (mCall 2 F_law_take (msCons (oE (mVar 0)) (msCons (oE (mC (.int 26))) msNil))))))))) msNil)))
def Nm6 : Sm := (sSet 10 (mBM gJoin (oE (mC (.str ""))) (msCons (oE (mLc (mRng1 (msCons (oE (mCall 2 F_law_take (msCons (oE (mVar 0)) (msCons (oE (mC (.int 3))) msNil)))) msNil)) (.nm 9) [9] mYes (fE (oE (mOp gIx (oE (mVar 2)) (oE (mCall 2 F_law_take (msCons (oE (mVar 0)) (msCons (oE (mC (.int 26))) msNil))))))))) msNil)))
def Nm7 : Sm := (sPar [11, 12] (msCons (mCall 2 F_law_take (msCons (oE (mVar 0)) (msCons (oE (mC (.int 2))) msNil))) (msCons (mLst dsNil) msNil)))
def Nm8 : Sm := (sFor (mRng1 (msCons (oE (mVar 1)) msNil)) (.nm 7) (sSeq (sSet 13 (mOp gMod (oE (mOp gAdd (oE (mVar 3)) (oE (mOp gMul (oE (mVar 5)) (oE (mVar 7)))))) (oE (mC (.int 676)))))
    (sSeq (sSet 14 (mOp gAdd (oE (mOp gAdd (oE (mOp gAdd (oE (mVar 8)) (oE (mOp gIx (oE (mVar 2)) (oE (mOp gDiv (oE (mVar 13)) (oE (mC (.int 26))))))))) (oE (mOp gIx (oE (mVar 2)) (oE (mOp gMod (oE (mVar 13)) (oE (mC (.int 26))))))))) (oE (mVar 10))))
    (sSeq (sIf (mAnd (mBl (mOp (bo gEq) (oE (mVar 11)) (oE (mC (.int 1))))) (mBl (mOp (bo gEq) (oE (mOp gMod (oE (mVar 7)) (oE (mC (.int 2))))) (oE (mC (.int 1)))))) (sSet 14 (mOp gAdd (oE (mOp gIx (oE (mVar 12)) (oE (mUn gNeg (oE (mC (.int 1))))))) (oE (mOp gIx (oE (mVar 2)) (oE (mOp gMod (oE (mOp gAdd (oE (mVar 3)) (oE (mVar 7)))) (oE (mC (.int 26))))))))) sNext)
    (sAppend 12 (fE (oE (mVar 14))))))))
def Nm9 : Sm := (sRet (mVar 12))
def Nl1 : Sm := (sSet 13 (mOp gMod (oE (mOp gAdd (oE (mVar 3)) (oE (mOp gMul (oE (mVar 5)) (oE (mVar 7)))))) (oE (mC (.int 676)))))
def Nl2 : Sm := (sSet 14 (mOp gAdd (oE (mOp gAdd (oE (mOp gAdd (oE (mVar 8)) (oE (mOp gIx (oE (mVar 2)) (oE (mOp gDiv (oE (mVar 13)) (oE (mC (.int 26))))))))) (oE (mOp gIx (oE (mVar 2)) (oE (mOp gMod (oE (mVar 13)) (oE (mC (.int 26))))))))) (oE (mVar 10))))
def Nl3 : Sm := (sIf (mAnd (mBl (mOp (bo gEq) (oE (mVar 11)) (oE (mC (.int 1))))) (mBl (mOp (bo gEq) (oE (mOp gMod (oE (mVar 7)) (oE (mC (.int 2))))) (oE (mC (.int 1)))))) (sSet 14 (mOp gAdd (oE (mOp gIx (oE (mVar 12)) (oE (mUn gNeg (oE (mC (.int 1))))))) (oE (mOp gIx (oE (mVar 2)) (oE (mOp gMod (oE (mOp gAdd (oE (mVar 3)) (oE (mVar 7)))) (oE (mC (.int 26))))))))) sNext)
def Nl4 : Sm := (sAppend 12 (fE (oE (mVar 14))))
def Nl : Sm := sSeq Nl1 (sSeq Nl2 (sSeq Nl3 Nl4))
theorem Nm8_is : Nm8 = sFor (mRng1 (msCons (oE (mVar 1)) msNil)) (.nm 7) Nl := rfl
theorem B_law_names_is : B_law_names = sSeq Nm1 (sSeq Nm2 (sSeq Nm3 (sSeq Nm4 (sSeq Nm5 (sSeq Nm6 (sSeq Nm7 (sSeq Nm8 Nm9))))))) := rfl
/-! ### what they are -/
def vK (f s k : Int) : Int := (f + s * k) % 676
def bsN (h t : List Nat) (f s k : Int) : List Nat := h ++ [97 + (vK f s k / 26).toNat] ++ [97 + (vK f s k % 26).toNat] ++ t
def nmN (h t : List Nat) (f s g : Int) (k : Nat) : List Nat := if g = 1 ∧ k % 2 = 1 then bsN h t f s ((k : Int) - 1) ++ [97 + ((f + (k : Int)) % 26).toNat] else bsN h t f s (k : Int)
def StepOk (s : Int) : Prop := s = 1 ∨ s = 3 ∨ s = 5 ∨ s = 7 ∨ s = 25 ∨ s = 675
theorem vK_rng (f s k : Int) : 0 ≤ vK f s k ∧ vK f s k < 676 := ⟨Int.emod_nonneg _ (by omega), Int.emod_lt_of_pos _ (by omega)⟩
theorem vK_inj {f s i j : Int} (hs : StepOk s) (hi : 0 ≤ i ∧ i < 26) (hj : 0 ≤ j ∧ j < 26) (e : vK f s i = vK f s j) : i = j := by
  unfold vK at e
  rcases hs with rfl | rfl | rfl | rfl | rfl | rfl <;> omega
theorem bsN_len (h t : List Nat) (f s k : Int) : (bsN h t f s k).length = h.length + 2 + t.length := by simp [bsN]; omega
theorem bsN_inj {h t : List Nat} {f s i j : Int} (hs : StepOk s) (hi : 0 ≤ i ∧ i < 26) (hj : 0 ≤ j ∧ j < 26) (e : bsN h t f s i = bsN h t f s j) : i = j := by
  unfold bsN at e
  have e := List.append_cancel_right e
  rw [List.append_assoc, List.append_assoc] at e
  have e := List.append_cancel_left e
  have e1 : 97 + (vK f s i / 26).toNat = 97 + (vK f s j / 26).toNat ∧ 97 + (vK f s i % 26).toNat = 97 + (vK f s j % 26).toNat := by simpa using e
  have r1 := vK_rng f s i
  have r2 := vK_rng f s j
  exact vK_inj (f := f) hs hi hj (by omega)
theorem bsN_c {h t : List Nat} {f s k : Int} (hh : ∀ c ∈ h, 97 ≤ c ∧ c ≤ 122) (ht : ∀ c ∈ t, 97 ≤ c ∧ c ≤ 122) : ∀ x ∈ bsN h t f s k, 97 ≤ x ∧ x ≤ 122 := fun x hx => by
  have r := vK_rng f s k
  unfold bsN at hx
  rcases List.mem_append.mp hx with hx | hx
  · rcases List.mem_append.mp hx with hx | hx
    · rcases List.mem_append.mp hx with hx | hx
      · exact hh x hx
      · rw [List.mem_singleton.mp hx]; omega
    · rw [List.mem_singleton.mp hx]; omega
  · exact ht x hx
theorem nmN_g {h t : List Nat} {f s g : Int} {k : Nat} (hh : ∀ c ∈ h, 97 ≤ c ∧ c ≤ 122) (ht : ∀ c ∈ t, 97 ≤ c ∧ c ≤ 122) (h3 : h.length ≤ 3) (t2 : t.length ≤ 2) : Gn (nmN h t f s g k) := by
  unfold nmN
  have q1 := Int.emod_nonneg (f + (k : Int)) (by omega : (26 : Int) ≠ 0)
  have q2 := Int.emod_lt_of_pos (f + (k : Int)) (by omega : (0 : Int) < 26)
  split
  · refine ⟨by rw [List.length_append, bsN_len]; omega, by rw [List.length_append, bsN_len, List.length_singleton]; omega, fun x hx => ?_⟩
    rcases List.mem_append.mp hx with hx | hx
    · exact bsN_c hh ht x hx
    · rw [List.mem_singleton.mp hx]; omega
  · exact ⟨by rw [bsN_len]; omega, by rw [bsN_len]; omega, bsN_c hh ht⟩
theorem nmN_inj {h t : List Nat} {f s g : Int} {i j : Nat} (hs : StepOk s) (hi : i < 26) (hj : j < 26) (e : nmN h t f s g i = nmN h t f s g j) : i = j := by
  have el := congrArg List.length e
  unfold nmN at e el
  split at e <;> split at e
  · rename_i h1 h2
    have e := List.append_inj' e rfl
    have := bsN_inj hs (by omega) (by omega) e.1
    omega
  · rename_i h1 h2
    rw [if_pos h1, if_neg h2, List.length_append, bsN_len, bsN_len, List.length_singleton] at el
    omega
  · rename_i h1 h2
    rw [if_neg h1, if_pos h2, List.length_append, bsN_len, bsN_len, List.length_singleton] at el
    omega
  · have := bsN_inj hs (by omega) (by omega) e
    omega
theorem range_nodup {α : Type} {g : Nat → α} {m : Nat} (h : ∀ i j, i < m → j < m → g i = g j → i = j) : ((List.range m).map g).Nodup := by
  unfold List.Nodup
  rw [List.pairwise_map]
  exact List.Pairwise.imp_of_mem (fun ha hb hne e => hne (h _ _ (List.mem_range.mp ha) (List.mem_range.mp hb) e)) List.nodup_range

theorem nm5 {T : Int} {L : List D} (h : Bx T L) (hT : T < 800000) (m f w s : Int) : ∃ L' l, Bx (T + 4) L' ∧ l.length ≤ 3 ∧ (∀ c ∈ l, 97 ≤ c ∧ c ≤ 122) ∧
    Nm5 [sB L, fI m, some (.fro (.str AZ)), fI f, fI w, fI s, none, none, none, none, none, none, none, none, none] = .nx [sB L', fI m, some (.fro (.str AZ)), fI f, fI w, fI s, none, none, some (.fro (dL l)), none, none, none, none, none, none] := by
  obtain ⟨n, L1, n0, n1, h1, e1⟩ := takeB (m := 4) h (by omega) (by omega) (by omega)
  have hr : (rngD 0 n.toNat).length = n.toNat := by unfold rngD; rw [List.length_map, List.length_range]
  have hz : n.toNat ≤ sizeLine := by rw [sizeLine_eq]; omega
  obtain ⟨out, ε', e2, ⟨L2, qs, h2, rfl, hq, rfl⟩, hl⟩ := lc_inv (p := .nm 9) (vs := [9]) (m := fE (oE (mOp gIx (oE (mVar 2)) (oE (mCall 2 F_law_take (msCons (oE (mVar 0)) (msCons (oE (mC (.int 26))) msNil)))))))
    (fun acc ε => ∃ L2 qs, Bx (T + 1 + (acc.length : Int)) L2 ∧ acc = qs.map (fun c => dL [c]) ∧ (∀ c ∈ qs, 97 ≤ c ∧ c ≤ 122) ∧ ε = [sB L2, fI m, some (.fro (.str AZ)), fI f, fI w, fI s, none, none, none, none, none, none, none, none, none])
    (N := n.toNat) hz (ds := rngD 0 n.toNat) (acc := []) (ε := [sB L1, fI m, some (.fro (.str AZ)), fI f, fI w, fI s, none, none, none, none, none, none, none, none, none])
    ⟨L1, [], by simpa using h1, rfl, (fun _ h => by cases h), rfl⟩ (fun d hd acc ε hI hacc => by
      obtain ⟨L2, qs, h2, rfl, hx, rfl⟩ := hI
      obtain ⟨q, L3, q0, q1, h3, e3⟩ := takeB (m := 26) h2 (by omega) (by omega) (by omega)
      have ey := gIx_AZ q0 q1
      refine ⟨_, _, _, by simp; rfl, by simp [e3, ey]; exact ⟨rfl, rfl⟩, L3, qs ++ [97 + q.toNat], h3.mono (by simp; omega), by simp, ?_, by simp⟩
      intro c hc
      rcases List.mem_append.mp hc with hc | hc
      · exact hx c hc
      · rw [List.mem_singleton.mp hc]
        omega) (by rw [hr]; simp)
  have hql : qs.length = n.toNat := by rw [List.length_map, hr] at hl; simpa using hl
  have ez := gJoin_L (cs := qs) (by omega)
  have hrn : -4611686018427387904 ≤ n ∧ n < 4611686018427387904 := by omega
  rw [List.length_map] at h2
  exact ⟨L2, qs, h2.mono (by omega), by omega, hq, by simp [Nm5, e1, hrn, e2, ez]⟩

theorem nm6 {T : Int} {L : List D} (h : Bx T L) (hT : T < 800000) (m f w s : Int) (hd : List Nat) : ∃ L' l, Bx (T + 3) L' ∧ l.length ≤ 2 ∧ (∀ c ∈ l, 97 ≤ c ∧ c ≤ 122) ∧
    Nm6 [sB L, fI m, some (.fro (.str AZ)), fI f, fI w, fI s, none, none, some (.fro (dL hd)), none, none, none, none, none, none] = .nx [sB L', fI m, some (.fro (.str AZ)), fI f, fI w, fI s, none, none, some (.fro (dL hd)), none, some (.fro (dL l)), none, none, none, none] := by
  obtain ⟨n, L1, n0, n1, h1, e1⟩ := takeB (m := 3) h (by omega) (by omega) (by omega)
  have hr : (rngD 0 n.toNat).length = n.toNat := by unfold rngD; rw [List.length_map, List.length_range]
  have hz : n.toNat ≤ sizeLine := by rw [sizeLine_eq]; omega
  obtain ⟨out, ε', e2, ⟨L2, qs, h2, rfl, hq, rfl⟩, hl⟩ := lc_inv (p := .nm 9) (vs := [9]) (m := fE (oE (mOp gIx (oE (mVar 2)) (oE (mCall 2 F_law_take (msCons (oE (mVar 0)) (msCons (oE (mC (.int 26))) msNil)))))))
    (fun acc ε => ∃ L2 qs, Bx (T + 1 + (acc.length : Int)) L2 ∧ acc = qs.map (fun c => dL [c]) ∧ (∀ c ∈ qs, 97 ≤ c ∧ c ≤ 122) ∧ ε = [sB L2, fI m, some (.fro (.str AZ)), fI f, fI w, fI s, none, none, some (.fro (dL hd)), none, none, none, none, none, none])
    (N := n.toNat) hz (ds := rngD 0 n.toNat) (acc := []) (ε := [sB L1, fI m, some (.fro (.str AZ)), fI f, fI w, fI s, none, none, some (.fro (dL hd)), none, none, none, none, none, none])
    ⟨L1, [], by simpa using h1, rfl, (fun _ h => by cases h), rfl⟩ (fun d hd acc ε hI hacc => by
      obtain ⟨L2, qs, h2, rfl, hx, rfl⟩ := hI
      obtain ⟨q, L3, q0, q1, h3, e3⟩ := takeB (m := 26) h2 (by omega) (by omega) (by omega)
      have ey := gIx_AZ q0 q1
      refine ⟨_, _, _, by simp; rfl, by simp [e3, ey]; exact ⟨rfl, rfl⟩, L3, qs ++ [97 + q.toNat], h3.mono (by simp; omega), by simp, ?_, by simp⟩
      intro c hc
      rcases List.mem_append.mp hc with hc | hc
      · exact hx c hc
      · rw [List.mem_singleton.mp hc]
        omega) (by rw [hr]; simp)
  have hql : qs.length = n.toNat := by rw [List.length_map, hr] at hl; simpa using hl
  have ez := gJoin_L (cs := qs) (by omega)
  have hrn : -4611686018427387904 ≤ n ∧ n < 4611686018427387904 := by omega
  rw [List.length_map] at h2
  exact ⟨L2, qs, h2.mono (by omega), by omega, hq, by simp [Nm6, e1, hrn, e2, ez]⟩

theorem nm8 (a0 a4 : Option SV) (m f s g : Int) (h t : List Nat) (h3 : h.length ≤ 3) (t2 : t.length ≤ 2) (hm : 0 ≤ m) (hm2 : m ≤ 26) (hf : 0 ≤ f) (hf2 : f < 676) (hs : StepOk s) (hg : g = 0 ∨ g = 1) :
    ∃ x y z, Nm8 [a0, fI m, some (.fro (.str AZ)), fI f, a4, fI s, none, none, some (.fro (dL h)), none, some (.fro (dL t)), fI g, some (.own (.lst [])), none, none] = .nx [a0, fI m, some (.fro (.str AZ)), fI f, a4, fI s, none, x, some (.fro (dL h)), none, some (.fro (dL t)), fI g, some (.own (.lst (((List.range m.toNat).map (nmN h t f s g)).map dL))), y, z] := by
  have s0 : 0 < s ∧ s < 676 := by rcases hs with rfl | rfl | rfl | rfl | rfl | rfl <;> omega
  have hrn : -4611686018427387904 ≤ m ∧ m < 4611686018427387904 := by omega
  have hr : (rngD 0 m.toNat).length = m.toNat := by unfold rngD; rw [List.length_map, List.length_range]
  obtain ⟨ε', e1, x, y, z, rfl⟩ := loop_nx (p := .nm 7) (body := Nl) (fun i ε => ∃ x y z, ε = [a0, fI m, some (.fro (.str AZ)), fI f, a4, fI s, none, x, some (.fro (dL h)), none, some (.fro (dL t)), fI g, some (.own (.lst (((List.range i).map (nmN h t f s g)).map dL))), y, z])
    (ds := rngD 0 m.toNat) (k := 0) (ε := [a0, fI m, some (.fro (.str AZ)), fI f, a4, fI s, none, none, some (.fro (dL h)), none, some (.fro (dL t)), fI g, some (.own (.lst [])), none, none]) ⟨none, none, none, rfl⟩ (fun i d ε hd hI => by
      obtain ⟨rfl, hi⟩ := rng_get hd
      obtain ⟨x, y, z, rfl⟩ := hI
      rw [Nat.zero_add]
      have rv := vK_rng f s (i : Int)
      have q1 : gMul (.int s) (.int (i : Int)) = some (.val (.int (s * i))) := gMul_i (by omega)
      have q2 : gMod (.int (f + s * i)) (.int 676) = some (.val (.int (vK f s i))) := gMod_i (by omega)
      have q3 : gDiv (.int (vK f s i)) (.int 26) = some (.val (.int (vK f s i / 26))) := gDiv_i (by omega) (lg (by omega) (by omega))
      have q4 : gMod (.int (vK f s i)) (.int 26) = some (.val (.int (vK f s i % 26))) := gMod_i (by omega)
      have q5 : gMod (.int (i : Int)) (.int 2) = some (.val (.int ((i : Int) % 2))) := gMod_i (by omega)
      have q6 : gMod (.int (f + i)) (.int 26) = some (.val (.int ((f + i) % 26))) := gMod_i (by omega)
      have ea := gIx_AZ (k := vK f s i / 26) (by omega) (by omega)
      have eb := gIx_AZ (k := vK f s i % 26) (by omega) (by omega)
      have ed := gIx_AZ (Int.emod_nonneg (f + i) (by omega : (26 : Int) ≠ 0)) (Int.emod_lt_of_pos _ (by omega))
      have g1 := gAdd_L (a := h) (b := [97 + (vK f s i / 26).toNat]) (by rw [List.length_singleton]; omega)
      have g2 := gAdd_L (a := h ++ [97 + (vK f s i / 26).toNat]) (b := [97 + (vK f s i % 26).toNat]) (by simp; omega)
      have g3 : gAdd (dL (h ++ [97 + (vK f s i / 26).toNat] ++ [97 + (vK f s i % 26).toNat])) (dL t) = some (.val (dL (bsN h t f s i))) := gAdd_L (by simp; omega)
      have f1 : Nl1 [a0, fI m, some (.fro (.str AZ)), fI f, a4, fI s, none, fI i, some (.fro (dL h)), none, some (.fro (dL t)), fI g, some (.own (.lst (((List.range i).map (nmN h t f s g)).map dL))), y, z] = .nx [a0, fI m, some (.fro (.str AZ)), fI f, a4, fI s, none, fI i, some (.fro (dL h)), none, some (.fro (dL t)), fI g, some (.own (.lst (((List.range i).map (nmN h t f s g)).map dL))), fI (vK f s i), z] := by
        simp only [Nl1, x_set]
        simp [q1, gAdd_i, q2]
      have f2 : Nl2 [a0, fI m, some (.fro (.str AZ)), fI f, a4, fI s, none, fI i, some (.fro (dL h)), none, some (.fro (dL t)), fI g, some (.own (.lst (((List.range i).map (nmN h t f s g)).map dL))), fI (vK f s i), z] = .nx [a0, fI m, some (.fro (.str AZ)), fI f, a4, fI s, none, fI i, some (.fro (dL h)), none, some (.fro (dL t)), fI g, some (.own (.lst (((List.range i).map (nmN h t f s g)).map dL))), fI (vK f s i), some (.fro (dL (bsN h t f s i)))] := by
        generalize (((List.range i).map (nmN h t f s g)).map dL) = F at *
        generalize bsN h t f s i = O at *
        generalize [97 + (vK f s i / 26).toNat] = C1 at *
        generalize [97 + (vK f s i % 26).toNat] = C2 at *
        generalize h ++ C1 = HC at *
        generalize HC ++ C2 = HCC at *
        simp only [Nl2, x_set]
        simp [q3, q4, ea, eb, g1, g2, g3]
      have hsz : i < sizeLine := by rw [sizeLine_eq]; omega
      have hlen : (((List.range i).map (nmN h t f s g)).map dL).length = i := by simp
      have fin : ∀ O, nmN h t f s g i = O → Nl4 [a0, fI m, some (.fro (.str AZ)), fI f, a4, fI s, none, fI i, some (.fro (dL h)), none, some (.fro (dL t)), fI g, some (.own (.lst (((List.range i).map (nmN h t f s g)).map dL))), fI (vK f s i), some (.fro (dL O))] = .nx [a0, fI m, some (.fro (.str AZ)), fI f, a4, fI s, none, fI i, some (.fro (dL h)), none, some (.fro (dL t)), fI g, some (.own (.lst (((List.range (i + 1)).map (nmN h t f s g)).map dL))), fI (vK f s i), some (.fro (dL O))] := fun O e => by
        rw [List.range_succ, List.map_append, List.map_singleton, List.map_append, List.map_singleton, e]
        generalize (((List.range i).map (nmN h t f s g)).map dL) = F at *
        simp [Nl4, hlen, hsz]
      refine ⟨[a0, fI m, some (.fro (.str AZ)), fI f, a4, fI s, none, fI i, some (.fro (dL h)), none, some (.fro (dL t)), fI g, some (.own (.lst (((List.range i).map (nmN h t f s g)).map dL))), y, z], _, by simp, ?_, fI i, fI (vK f s i), some (.fro (dL (nmN h t f s g i))), rfl⟩
      unfold Nl
      rw [x_seq, f1, x_q1, x_seq, f2, x_q1]
      by_cases hc : g = 1 ∧ i % 2 = 1
      · have hb : (i : Int) % 2 = 1 := by omega
        have en : nmN h t f s g i = bsN h t f s ((i : Int) - 1) ++ [97 + ((f + (i : Int)) % 26).toNat] := by unfold nmN; rw [if_pos hc]
        have ep : nmN h t f s g (i - 1) = bsN h t f s ((i : Int) - 1) := by
          unfold nmN
          rw [if_neg (by omega)]
          congr 1
          omega
        have gl : gIx (.list (((List.range i).map (nmN h t f s g)).map dL)) (.int (-1)) = some (.val (dL (bsN h t f s ((i : Int) - 1)))) := by
          show (L2.atI _ (-1)).map _ = _
          unfold L2.atI ixN
          rw [if_neg (by omega), List.length_map, List.length_map, List.length_range, if_pos (by omega)]
          show (((List.range i).map (nmN h t f s g)).map dL)[_]?.map _ = _
          rw [show (-1 + (i : Int)).toNat = i - 1 by omega, List.getElem?_map, List.getElem?_map, List.getElem?_range (by omega)]
          show some (Out.val (dL (nmN h t f s g (i - 1)))) = _
          rw [ep]
        have g6 := gAdd_L (a := bsN h t f s ((i : Int) - 1)) (b := [97 + ((f + (i : Int)) % 26).toNat]) (by rw [bsN_len, List.length_singleton]; omega)
        have f3 : Nl3 [a0, fI m, some (.fro (.str AZ)), fI f, a4, fI s, none, fI i, some (.fro (dL h)), none, some (.fro (dL t)), fI g, some (.own (.lst (((List.range i).map (nmN h t f s g)).map dL))), fI (vK f s i), some (.fro (dL (bsN h t f s i)))] = .nx [a0, fI m, some (.fro (.str AZ)), fI f, a4, fI s, none, fI i, some (.fro (dL h)), none, some (.fro (dL t)), fI g, some (.own (.lst (((List.range i).map (nmN h t f s g)).map dL))), fI (vK f s i), some (.fro (dL (nmN h t f s g i)))] := by
          rw [en]
          generalize (((List.range i).map (nmN h t f s g)).map dL) = F at *
          generalize bsN h t f s i = O at *
          generalize bsN h t f s ((i : Int) - 1) = O' at *
          simp [Nl3, hc.1, q5, hb, gEq_int, gNeg, gl, gAdd_i, q6, ed, g6]
        rw [x_seq, f3, x_q1, fin _ rfl]
      · have en : nmN h t f s g i = bsN h t f s i := by unfold nmN; rw [if_neg hc]
        have f3 : Nl3 [a0, fI m, some (.fro (.str AZ)), fI f, a4, fI s, none, fI i, some (.fro (dL h)), none, some (.fro (dL t)), fI g, some (.own (.lst (((List.range i).map (nmN h t f s g)).map dL))), fI (vK f s i), some (.fro (dL (bsN h t f s i)))] = .nx [a0, fI m, some (.fro (.str AZ)), fI f, a4, fI s, none, fI i, some (.fro (dL h)), none, some (.fro (dL t)), fI g, some (.own (.lst (((List.range i).map (nmN h t f s g)).map dL))), fI (vK f s i), some (.fro (dL (nmN h t f s g i)))] := by
          rw [en]
          generalize (((List.range i).map (nmN h t f s g)).map dL) = F at *
          generalize bsN h t f s i = O at *
          rcases hg with rfl | rfl
          · simp [Nl3, gEq_int]
          · have hb : ¬ (i : Int) % 2 = 1 := fun z => hc ⟨rfl, by omega⟩
            simp [Nl3, q5, hb, gEq_int]
        rw [x_seq, f3, x_q1, fin _ rfl])
  rw [hr, Nat.zero_add] at e1
  exact ⟨x, y, z, by simp [Nm8_is, hrn, e1]⟩
end GC

namespace GC
open PySem PySem.Spec L2 M3 M4 M5
open PyProof.Rows hiding St
theorem lc_map {α : Type} {p : Pat} {vs : List Nat} {m : M D} {g f : α → D} {ε : En} : ∀ {xs : List α} {acc : List D}, (∀ x ∈ xs, ∃ ε1 ε3, bindP p (g x) ε = some ε1 ∧ m ε1 = .ok (f x) ε3 ∧ wipeE ε3 vs = ε) → acc.length + xs.length ≤ sizeLine →
    lcLoop p vs mYes m (xs.map g) acc ε = .ok (acc ++ xs.map f) ε
  | [], acc, _, _ => by unfold lcLoop; simp
  | x :: xs, acc, h, hl => by
    obtain ⟨ε1, ε3, h1, h2, h3⟩ := h x List.mem_cons_self
    rw [List.map_cons]
    unfold lcLoop
    rw [h1]
    simp only [x_yes, h2]
    rw [List.length_cons] at hl
    rw [if_pos (by omega), h3, lc_map (fun x hx => h x (List.mem_cons_of_mem _ hx)) (by rw [List.length_append, List.length_singleton]; omega)]
    simp
theorem lc_filtM {α : Type} {p : Pat} {vs : List Nat} {c : M Bool} {m : M D} {g f : α → D} {q : α → Bool} {ε : En} : ∀ {xs : List α} {acc : List D}, (∀ x ∈ xs, ∃ ε1 ε2, bindP p (g x) ε = some ε1 ∧ c ε1 = .ok (q x) ε2 ∧ wipeE ε2 vs = ε ∧ (q x = true → ∃ ε3, m ε2 = .ok (f x) ε3 ∧ wipeE ε3 vs = ε)) → acc.length + xs.length ≤ sizeLine →
    lcLoop p vs c m (xs.map g) acc ε = .ok (acc ++ (xs.filter q).map f) ε
  | [], acc, _, _ => by unfold lcLoop; simp
  | x :: xs, acc, h, hl => by
    obtain ⟨ε1, ε2, h1, h2, h3, h4⟩ := h x List.mem_cons_self
    rw [List.length_cons] at hl
    rw [List.map_cons]
    unfold lcLoop
    rw [h1]
    simp only [h2]
    cases hq : q x with
    | false =>
      simp only [h3]
      rw [lc_filtM (fun x hx => h x (List.mem_cons_of_mem _ hx)) (by omega), List.filter_cons]
      simp [hq]
    | true =>
      obtain ⟨ε3, h5, h6⟩ := h4 hq
      simp only [h5]
      rw [if_pos (by omega), h6, lc_filtM (fun x hx => h x (List.mem_cons_of_mem _ hx)) (by rw [List.length_append, List.length_singleton]; omega), List.filter_cons]
      simp [hq]
theorem sz_of {n : Nat} (h : n ≤ 1000) : n ≤ sizeLine := by rw [sizeLine_eq]; omega
theorem cut_from (ds : List D) {p : Int} (h0 : 0 ≤ p) : M3.cutD ds (some p) none = ds.drop p.toNat := by
  unfold M3.cutD
  have e : HT.sIx ds.length 0 (some p) = min p.toNat ds.length := by
    show (if p < 0 then _ else _) = _
    rw [if_neg (by omega)]
  rw [e, HT.sIx_none]
  by_cases q : p.toNat ≤ ds.length
  · rw [Nat.min_eq_left q, List.take_of_length_le (by rw [List.length_drop]; omega)]
  · rw [Nat.min_eq_right (by omega), List.drop_of_length_le (by omega), List.drop_of_length_le (by omega)]
    simp
theorem cut_to (ds : List D) {p : Int} (h0 : 0 ≤ p) : M3.cutD ds none (some p) = ds.take p.toNat := by
  unfold M3.cutD
  have e : HT.sIx ds.length ds.length (some p) = min p.toNat ds.length := by
    show (if p < 0 then _ else _) = _
    rw [if_neg (by omega)]
  rw [e, HT.sIx_none, List.drop_zero, Nat.sub_zero]
  by_cases q : p.toNat ≤ ds.length
  · rw [Nat.min_eq_left q]
  · rw [Nat.min_eq_right (by omega), List.take_length, List.take_of_length_le (by omega)]
/-- the twelve words -/
def W12 : List (List Nat) := [[115, 116, 111, 114, 101], [114, 111, 119], [112, 117, 116], [100, 114, 111, 112], [115, 101, 116], [116, 105, 101], [114, 117, 108, 101], [116, 97, 98, 108, 101], [111, 108, 100], [110, 101, 119], [116, 111], [103, 111, 110, 101]]
theorem w12_split : Txt.split "store row put drop set tie rule table old new to gone" " " = W12.map sL := by decide +kernel
theorem w12_good : ∀ l ∈ W12, Gn l := by
  have h : ∀ l ∈ W12, 1 ≤ l.length ∧ l.length ≤ 8 ∧ ∀ x ∈ l, 97 ≤ x ∧ x ≤ 122 := by decide +kernel
  exact fun l hl => ⟨(h l hl).1, (h l hl).2.1, (h l hl).2.2⟩
theorem w12_rot : ∀ r < 12, (((W12 ++ W12).drop r).take 12).Nodup := by decide +kernel
theorem w12_len : ∀ r < 12, 12 ≤ ((W12 ++ W12).drop r).length := by decide +kernel
def WR (f m : Int) : List (List Nat) := ((W12 ++ W12).drop (f % 12).toNat).take m.toNat
theorem wr_ok {f m : Int} (hm : 0 ≤ m) (hm2 : m ≤ 12) : (WR f m).length = m.toNat ∧ (∀ l ∈ WR f m, Gn l) ∧ (WR f m).Nodup := by
  have r1 := Int.emod_nonneg f (by omega : (12 : Int) ≠ 0)
  have r2 := Int.emod_lt_of_pos f (by omega : (0 : Int) < 12)
  have hl := w12_len (f % 12).toNat (by omega)
  have hn := w12_rot (f % 12).toNat (by omega)
  refine ⟨by unfold WR; rw [List.length_take]; omega, fun l hl => ?_, ?_⟩
  · have := List.mem_of_mem_drop (List.mem_of_mem_take hl)
    rcases List.mem_append.mp this with q | q <;> exact w12_good l q
  · unfold WR
    have e : ((W12 ++ W12).drop (f % 12).toNat).take m.toNat = (((W12 ++ W12).drop (f % 12).toNat).take 12).take m.toNat := by
      rw [List.take_take, Nat.min_eq_left (by omega)]
    rw [e]
    exact hn.sublist (List.take_sublist _ _)
/-- single letters -/
def one1 (f s : Int) (k : Nat) : List Nat := [97 + ((f + s * (k : Int)) % 26).toNat]
theorem one1_ok {f s m : Int} (hs : StepOk s) (hm2 : m ≤ 26) : (∀ l ∈ (List.range m.toNat).map (one1 f s), Gn l) ∧ ((List.range m.toNat).map (one1 f s)).Nodup := by
  refine ⟨fun l hl => ?_, range_nodup fun i j hi hj e => ?_⟩
  · obtain ⟨k, _, rfl⟩ := List.mem_map.mp hl
    have r1 := Int.emod_nonneg (f + s * (k : Int)) (by omega : (26 : Int) ≠ 0)
    have r2 := Int.emod_lt_of_pos (f + s * (k : Int)) (by omega : (0 : Int) < 26)
    exact ⟨by simp [one1], by simp [one1], fun x hx => by unfold one1 at hx; rw [List.mem_singleton.mp hx]; omega⟩
  · have e1 : 97 + ((f + s * (i : Int)) % 26).toNat = 97 + ((f + s * (j : Int)) % 26).toNat := by simpa [one1] using e
    rcases hs with rfl | rfl | rfl | rfl | rfl | rfl <;> omega
end GC

namespace GC
open PySem PySem.Spec L2 M3 M4 M5
open PyProof.Rows hiding St
theorem fn_at {own : List Nat} {N : Nat} {body : Sm} {ε E ε' εo : En} {i : Nat} {o : OV} (hp : parOk own 0 ε = true) (hl : ε.length ≤ N) (hE : ε ++ List.replicate (N - ε.length) none = E) (hb : body E = .rt (.at_ i) ε') (hi : ε.length ≤ i) (hs : ε'[i]? = some (some (.own o))) (ho : outE own ε' 0 ε = εo) : fnF own N body ε = .ok (.new o) εo := by
  rw [x_fnF, if_pos ⟨hp, hl⟩, hE, hb]
  dsimp only
  rw [if_neg (by omega), hs]
  dsimp only
  rw [ho]
theorem gAdd_ll {a b : List D} (h : a.length + b.length ≤ sizeLine) : gAdd (.list a) (.list b) = some (.newl (a ++ b)) := by
  show (if _ then _ else _) = _
  rw [if_pos h]
theorem nm1 {T : Int} {L : List D} (h : Bx T L) (hT : T < 800000) (m : Int) : ∃ L' f w, Bx (T + 2) L' ∧ 0 ≤ f ∧ f < 676 ∧ 0 ≤ w ∧ w < 5 ∧
    Nm1 [sB L, fI m, none, none, none, none, none, none, none, none, none, none, none, none, none] = .nx [sB L', fI m, some (.fro (.str AZ)), fI f, fI w, none, none, none, none, none, none, none, none, none, none] := by
  obtain ⟨f, L1, f0, f1, h1, e1⟩ := takeB (m := 676) h (by omega) (by omega) (by omega)
  obtain ⟨w, L2, w0, w1, h2, e2⟩ := takeB (m := 5) h1 (by omega) (by omega) (by omega)
  have h3 : (3 : Nat) ≤ sizeLine := sz_of (by omega)
  exact ⟨L2, f, w, h2.mono (by omega), f0, f1, w0, w1, by simp [Nm1, e1, e2, h3]⟩
theorem nm2 {T : Int} {L : List D} (h : Bx T L) (hT : T < 800000) (m f w : Int) : ∃ L' s, Bx (T + 1) L' ∧ StepOk s ∧
    Nm2 [sB L, fI m, some (.fro (.str AZ)), fI f, fI w, none, none, none, none, none, none, none, none, none, none] = .nx [sB L', fI m, some (.fro (.str AZ)), fI f, fI w, fI s, none, none, none, none, none, none, none, none, none] := by
  obtain ⟨k, L1, k0, k1, h1, e1⟩ := takeB (m := 6) h (by omega) (by omega) (by omega)
  have h6 : (6 : Nat) ≤ sizeLine := sz_of (by omega)
  obtain ⟨s, hs, gs⟩ : ∃ s : Int, StepOk s ∧ gIx (.list [.int 1, .int 3, .int 5, .int 7, .int 25, .int 675]) (.int k) = some (.val (.int s)) := by
    have : k = 0 ∨ k = 1 ∨ k = 2 ∨ k = 3 ∨ k = 4 ∨ k = 5 := by omega
    rcases this with rfl | rfl | rfl | rfl | rfl | rfl
    · exact ⟨1, .inl rfl, by simp [gIx, atI, ixN]⟩
    · exact ⟨3, .inr (.inl rfl), by simp [gIx, atI, ixN]⟩
    · exact ⟨5, .inr (.inr (.inl rfl)), by simp [gIx, atI, ixN]⟩
    · exact ⟨7, .inr (.inr (.inr (.inl rfl))), by simp [gIx, atI, ixN]⟩
    · exact ⟨25, .inr (.inr (.inr (.inr (.inl rfl)))), by simp [gIx, atI, ixN]⟩
    · exact ⟨675, .inr (.inr (.inr (.inr (.inr rfl)))), by simp [gIx, atI, ixN]⟩
  exact ⟨L1, s, h1, hs, by simp [Nm2, h6, e1, gs]⟩
theorem nm9 (a0 a1 a2 a3 a4 a5 a6 a7 a8 a9 a10 a11 : Option SV) (F : List D) (y z : Option SV) : Nm9 [a0, a1, a2, a3, a4, a5, a6, a7, a8, a9, a10, a11, some (.own (.lst F)), y, z] = .rt (.at_ 12) [a0, a1, a2, a3, a4, a5, a6, a7, a8, a9, a10, a11, some (.own (.lst F)), y, z] := by simp [Nm9]
/-- names drawn: so many, good ones, unlike -/
theorem namesC {T : Int} {L : List D} (h : Bx T L) (hT : T < 700000) (m : Int) (hm : 0 ≤ m) (hm2 : m ≤ 12) :
    ∃ (L' : List D) (ls : List (List Nat)), Bx (T + 12) L' ∧ ls.length = m.toNat ∧ (∀ l ∈ ls, Gn l) ∧ ls.Nodup ∧ F_law_names [sB L, fI m] = .ok (.new (.lst (ls.map dL))) [sB L', fI m] := by
  obtain ⟨L1, f, w, h1, f0, f1, w0, w1, e1⟩ := nm1 h (by omega) m
  obtain ⟨L2, s, h2, hs, e2⟩ := nm2 h1 (by omega) m f w
  have start : ([sB L, fI m] : En) ++ List.replicate (15 - ([sB L, fI m] : En).length) none = [sB L, fI m, none, none, none, none, none, none, none, none, none, none, none, none, none] := rfl
  by_cases hw0 : w = 0
  · subst hw0
    have hl : ("store row put drop set tie rule table old new to gone" : Str).length + 2 ≤ sizeLine := by
      have : ("store row put drop set tie rule table old new to gone" : Str).length = 53 := by decide +kernel
      rw [this, sizeLine_eq]; omega
    have gs : gSplit (.str "store row put drop set tie rule table old new to gone") [.str " "] = some (.newl (W12.map dL)) := by
      have hc : ((" " : Str).length == 0) = false := by decide +kernel
      unfold gSplit
      dsimp only
      rw [if_pos ⟨hc, hl⟩, w12_split, List.map_map]
      rfl
    have ga : gAdd (.list (W12.map dL)) (.list (W12.map dL)) = some (.newl ((W12 ++ W12).map dL)) := by
      rw [gAdd_ll (by rw [sizeLine_eq]; simp [W12]), List.map_append]
    have q1 : gMod (.int f) (.int 12) = some (.val (.int (f % 12))) := gMod_i (by omega)
    have r1 := Int.emod_nonneg f (by omega : (12 : Int) ≠ 0)
    have g1 : gSl (.list ((W12 ++ W12).map dL)) (some (f % 12)) none = some (.newl (((W12 ++ W12).drop (f % 12).toNat).map dL)) := by
      show some (Out.newl (M3.cutD _ (some (f % 12)) none)) = _
      rw [cut_from _ r1, List.map_drop]
    have g2 : gSl (.list (((W12 ++ W12).drop (f % 12).toNat).map dL)) none (some m) = some (.newl ((WR f m).map dL)) := by
      show some (Out.newl (M3.cutD _ none (some m))) = _
      rw [cut_to _ hm]
      unfold WR
      rw [List.map_take]
    obtain ⟨k1, k2, k3⟩ := wr_ok (f := f) hm hm2
    refine ⟨L2, WR f m, h2.mono (by omega), k1, k2, k3, ?_⟩
    have e3 : Nm3 [sB L2, fI m, some (.fro (.str AZ)), fI f, fI 0, fI s, none, none, none, none, none, none, none, none, none] = .rt (.new (.lst ((WR f m).map dL))) [sB L2, fI m, some (.fro (.str AZ)), fI f, fI 0, fI s, some (.own (.lst (W12.map dL))), none, none, none, none, none, none, none, none] := by
      generalize (W12 ++ W12).map dL = X at *
      generalize ((W12 ++ W12).drop (f % 12).toNat).map dL = Y at *
      simp only [Nm3, x_if]
      simp [gEq_int, gs, ga, q1, g1, g2]
    unfold F_law_names
    exact fn_rn rfl (by simp) start (by rw [B_law_names_is, x_seq, e1, x_q1, x_seq, e2, x_q1, x_seq, e3]; rfl) rfl
  · have e3 : Nm3 [sB L2, fI m, some (.fro (.str AZ)), fI f, fI w, fI s, none, none, none, none, none, none, none, none, none] = .nx [sB L2, fI m, some (.fro (.str AZ)), fI f, fI w, fI s, none, none, none, none, none, none, none, none, none] := by
      simp [Nm3, gEq_int, hw0]
    have hrn : -4611686018427387904 ≤ m ∧ m < 4611686018427387904 := by omega
    by_cases hw1 : w = 1
    · subst hw1
      obtain ⟨k2, k3⟩ := one1_ok (f := f) hs (m := m) (by omega)
      have s0 : 0 < s ∧ s < 676 := by rcases hs with rfl | rfl | rfl | rfl | rfl | rfl <;> omega
      have el := lc_map (p := .nm 7) (vs := [7]) (m := fE (oE (mOp gIx (oE (mVar 2)) (oE (mOp gMod (oE (mOp gAdd (oE (mVar 3)) (oE (mOp gMul (oE (mVar 5)) (oE (mVar 7)))))) (oE (mC (.int 26)))))))) (g := fun k : Nat => PyData.int (0 + (k : Int))) (f := fun k => dL (one1 f s k))
        (ε := [sB L2, fI m, some (.fro (.str AZ)), fI f, fI 1, fI s, none, none, none, none, none, none, none, none, none]) (xs := List.range m.toNat) (acc := [])
        (fun k hk => by
          have hk := List.mem_range.mp hk
          have q1 : gMul (.int s) (.int (k : Int)) = some (.val (.int (s * k))) := gMul_i (by omega)
          have q2 : gMod (.int (f + s * k)) (.int 26) = some (.val (.int ((f + s * k) % 26))) := gMod_i (by omega)
          have ea := gIx_AZ (Int.emod_nonneg (f + s * k) (by omega : (26 : Int) ≠ 0)) (Int.emod_lt_of_pos _ (by omega))
          exact ⟨[sB L2, fI m, some (.fro (.str AZ)), fI f, fI 1, fI s, none, fI k, none, none, none, none, none, none, none], [sB L2, fI m, some (.fro (.str AZ)), fI f, fI 1, fI s, none, fI k, none, none, none, none, none, none, none], by simp, by simp [q1, gAdd_i, q2, ea, one1], by simp⟩)
        (by rw [sizeLine_eq]; simp; omega)
      have er : ((List.range m.toNat).map fun k : Nat => PyData.int (0 + (k : Int))) = rngD 0 m.toNat := rfl
      have em : ((List.range m.toNat).map fun k => dL (one1 f s k)) = ((List.range m.toNat).map (one1 f s)).map dL := by rw [List.map_map]; rfl
      rw [er, em, List.nil_append] at el
      have e4 : Nm4 [sB L2, fI m, some (.fro (.str AZ)), fI f, fI 1, fI s, none, none, none, none, none, none, none, none, none] = .rt (.new (.lst (((List.range m.toNat).map (one1 f s)).map dL))) [sB L2, fI m, some (.fro (.str AZ)), fI f, fI 1, fI s, none, none, none, none, none, none, none, none, none] := by
        generalize ((List.range m.toNat).map (one1 f s)).map dL = Z at *
        simp only [Nm4, x_if]
        simp [gEq_int, hrn, el]
      refine ⟨L2, (List.range m.toNat).map (one1 f s), h2.mono (by omega), by simp, k2, k3, ?_⟩
      unfold F_law_names
      exact fn_rn rfl (by simp) start (by rw [B_law_names_is, x_seq, e1, x_q1, x_seq, e2, x_q1, x_seq, e3, x_q1, x_seq, e4]; rfl) rfl
    · have e4 : Nm4 [sB L2, fI m, some (.fro (.str AZ)), fI f, fI w, fI s, none, none, none, none, none, none, none, none, none] = .nx [sB L2, fI m, some (.fro (.str AZ)), fI f, fI w, fI s, none, none, none, none, none, none, none, none, none] := by
        simp [Nm4, gEq_int, hw1]
      obtain ⟨L3, hd, h3, hd1, hd2, e5⟩ := nm5 h2 (by omega) m f w s
      obtain ⟨L4, tl, h4, tl1, tl2, e6⟩ := nm6 h3 (by omega) m f w s hd
      obtain ⟨g, L5, g0, g1, h5, e7⟩ := takeB (m := 2) h4 (by omega) (by omega) (by omega)
      have h0 : (0 : Nat) ≤ sizeLine := sz_of (by omega)
      have e7b : Nm7 [sB L4, fI m, some (.fro (.str AZ)), fI f, fI w, fI s, none, none, some (.fro (dL hd)), none, some (.fro (dL tl)), none, none, none, none] = .nx [sB L5, fI m, some (.fro (.str AZ)), fI f, fI w, fI s, none, none, some (.fro (dL hd)), none, some (.fro (dL tl)), fI g, some (.own (.lst [])), none, none] := by
        simp [Nm7, e7, h0]
      obtain ⟨x, y, z, e8⟩ := nm8 (sB L5) (fI w) m f s g hd tl (by omega) (by omega) hm (by omega) f0 f1 hs (by omega)
      refine ⟨L5, (List.range m.toNat).map (nmN hd tl f s g), h5.mono (by omega), by simp, fun l hl => ?_, range_nodup fun i j hi hj e => nmN_inj hs (by omega) (by omega) e, ?_⟩
      · obtain ⟨k, _, rfl⟩ := List.mem_map.mp hl
        exact nmN_g hd2 tl2 (by omega) (by omega)
      · unfold F_law_names
        refine fn_at (i := 12) rfl (by simp) start (by rw [B_law_names_is, x_seq, e1, x_q1, x_seq, e2, x_q1, x_seq, e3, x_q1, x_seq, e4, x_q1, x_seq, e5, x_q1, x_seq, e6, x_q1, x_seq, e7b, x_q1, x_seq, e8, x_q1]; exact nm9 _ _ _ _ _ _ _ _ _ _ _ _ _ _ _) (by simp) rfl rfl
end GC

namespace GC
open PySem PySem.Spec L2 M3 M4 M5
open PyProof.Rows hiding St
@[simp] theorem it_t (ds : List D) : itemsD (.tuple ds) = some ds := rfl
@[simp] theorem it_l (ds : List D) : itemsD (.list ds) = some ds := rfl
def Tb1 : Sm := (sPar [2, 3] (msCons (mLst dsNil) (msCons (mCall 2 F_law_names (msCons (oE (mVar 0)) (msCons (oE (mC (.int 5))) msNil))) msNil)))
def Tb2 : Sm := (sFor (mIt (fE (oE (mCall 2 F_law_names (msCons (oE (mVar 0)) (msCons (oE (mOp gAdd (oE (mC (.int 1))) (oE (mCall 2 F_law_take (msCons (oE (mVar 0)) (msCons (oE (mVar 1)) msNil)))))) msNil)))))) (.nm 4) (sSeq (sSet 5 (mSl gSl (oE (mOp gIx (oE (mLst (dsCons (fE (oE (mVar 3))) (dsCons (fE (oE (mCall 2 F_law_names (msCons (oE (mVar 0)) (msCons (oE (mC (.int 5))) msNil))))) dsNil)))) (oE (mCall 2 F_law_take (msCons (oE (mVar 0)) (msCons (oE (mC (.int 2))) msNil)))))) mNoPart (mPart (oE (mOp gAdd (oE (mC (.int 1))) (oE (mCall 2 F_law_take (msCons (oE (mVar 0)) (msCons (oE (mC (.int 5))) msNil)))))))))
    (sSeq (sSet 6 (mLst (dsCons (fE (oE (mTup (dsCons (fE (oE (mOp gIx (oE (mVar 5)) (oE (mC (.int 0)))))) (dsCons (fE (oE (mC .none))) dsNil))))) dsNil)))
    (sSeq (sFor (mIt (fE (oE (mSl gSl (oE (mVar 5)) (mPart (oE (mC (.int 1)))) mNoPart)))) (.nm 7) (sAppend 6 (fE (oE (mTup (dsCons (fE (oE (mVar 7))) (dsCons (fE (oE (mOp gIx (oE (mLst (dsCons (fE (oE (mC .none))) (dsCons (fE (oE (mOp M3.gSub (oE (mCall 2 F_law_take (msCons (oE (mVar 0)) (msCons (oE (mC (.int 9))) msNil)))) (oE (mC (.int 3)))))) (dsCons (fE (oE (mOp gPow (oE (mC (.int 10))) (oE (mC (.int 9)))))) dsNil))))) (oE (mCall 2 F_law_take (msCons (oE (mVar 0)) (msCons (oE (mC (.int 3))) msNil))))))) dsNil)))))))
    (sAppend 2 (fE (oE (mTup (dsCons (fE (oE (mVar 4))) (dsCons (fE (oE (mCallB gTuple (msCons (oE (mVar 6)) msNil)))) dsNil))))))))))
def Tb3 : Sm := (sRet (mCallB gTuple (msCons (oE (mVar 2)) msNil)))
def Tl1 : Sm := (sSet 5 (mSl gSl (oE (mOp gIx (oE (mLst (dsCons (fE (oE (mVar 3))) (dsCons (fE (oE (mCall 2 F_law_names (msCons (oE (mVar 0)) (msCons (oE (mC (.int 5))) msNil))))) dsNil)))) (oE (mCall 2 F_law_take (msCons (oE (mVar 0)) (msCons (oE (mC (.int 2))) msNil)))))) mNoPart (mPart (oE (mOp gAdd (oE (mC (.int 1))) (oE (mCall 2 F_law_take (msCons (oE (mVar 0)) (msCons (oE (mC (.int 5))) msNil)))))))))
def Tl2 : Sm := (sSet 6 (mLst (dsCons (fE (oE (mTup (dsCons (fE (oE (mOp gIx (oE (mVar 5)) (oE (mC (.int 0)))))) (dsCons (fE (oE (mC .none))) dsNil))))) dsNil)))
def Tl3 : Sm := (sFor (mIt (fE (oE (mSl gSl (oE (mVar 5)) (mPart (oE (mC (.int 1)))) mNoPart)))) (.nm 7) (sAppend 6 (fE (oE (mTup (dsCons (fE (oE (mVar 7))) (dsCons (fE (oE (mOp gIx (oE (mLst (dsCons (fE (oE (mC .none))) (dsCons (fE (oE (mOp M3.gSub (oE (mCall 2 F_law_take (msCons (oE (mVar 0)) (msCons (oE (mC (.int 9))) msNil)))) (oE (mC (.int 3)))))) (dsCons (fE (oE (mOp gPow (oE (mC (.int 10))) (oE (mC (.int 9)))))) dsNil))))) (oE (mCall 2 F_law_take (msCons (oE (mVar 0)) (msCons (oE (mC (.int 3))) msNil))))))) dsNil)))))))
def Tl4 : Sm := (sAppend 2 (fE (oE (mTup (dsCons (fE (oE (mVar 4))) (dsCons (fE (oE (mCallB gTuple (msCons (oE (mVar 6)) msNil)))) dsNil))))))
def Ti : Sm := (sAppend 6 (fE (oE (mTup (dsCons (fE (oE (mVar 7))) (dsCons (fE (oE (mOp gIx (oE (mLst (dsCons (fE (oE (mC .none))) (dsCons (fE (oE (mOp M3.gSub (oE (mCall 2 F_law_take (msCons (oE (mVar 0)) (msCons (oE (mC (.int 9))) msNil)))) (oE (mC (.int 3)))))) (dsCons (fE (oE (mOp gPow (oE (mC (.int 10))) (oE (mC (.int 9)))))) dsNil))))) (oE (mCall 2 F_law_take (msCons (oE (mVar 0)) (msCons (oE (mC (.int 3))) msNil))))))) dsNil))))))
def Tl : Sm := sSeq Tl1 (sSeq Tl2 (sSeq Tl3 Tl4))
theorem Tl3_is : Tl3 = sFor (mIt (fE (oE (mSl gSl (oE (mVar 5)) (mPart (oE (mC (.int 1)))) mNoPart)))) (.nm 7) Ti := rfl
theorem B_law_tables_is : B_law_tables = sSeq Tb1 (sSeq Tb2 Tb3) := rfl
theorem worthC {T : Int} {L : List D} (h : Bx T L) (hT : T < 800000) : ∃ L1 a L2 b w, Bx (T + 2) L2 ∧ Wd w ∧ F_law_take [sB L, fI 9] = .ok (.fro (.int a)) [sB L1, fI 9] ∧ F_law_take [sB L1, fI 3] = .ok (.fro (.int b)) [sB L2, fI 3] ∧
    gIx (.list [.none, .int (a - 3), .int 1000000000]) (.int b) = some (.val w) := by
  obtain ⟨a, L1, a0, a1, h1, e1⟩ := takeB (m := 9) h (by omega) (by omega) (by omega)
  obtain ⟨b, L2, b0, b1, h2, e2⟩ := takeB (m := 3) h1 (by omega) (by omega) (by omega)
  have : b = 0 ∨ b = 1 ∨ b = 2 := by omega
  rcases this with rfl | rfl | rfl
  · exact ⟨L1, a, L2, 0, .none, h2.mono (by omega), .inl rfl, e1, e2, by simp [gIx, atI, ixN]⟩
  · exact ⟨L1, a, L2, 1, .int (a - 3), h2.mono (by omega), .inr ⟨_, rfl, by omega, by omega⟩, e1, e2, by simp [gIx, atI, ixN]⟩
  · exact ⟨L1, a, L2, 2, .int 1000000000, h2.mono (by omega), .inr ⟨_, rfl, by omega, by omega⟩, e1, e2, by simp [gIx, atI, ixN]⟩
theorem tl3 {T : Int} {L : List D} (h : Bx T L) (hT : T < 700000) (a1 a2 a3 a4 a7 : Option SV) (n0 : List Nat) (ns : List (List Nat)) (hl : ns.length ≤ 4) :
    ∃ L' rest x7, Bx (T + 8) L' ∧ rest.map (·.1) = ns ∧ (∀ c ∈ rest, Wd c.2) ∧
      Tl3 [sB L, a1, a2, a3, a4, some (.own (.lst ((n0 :: ns).map dL))), some (.own (.lst [colD (n0, .none)])), a7] = .nx [sB L', a1, a2, a3, a4, some (.own (.lst ((n0 :: ns).map dL))), some (.own (.lst ((((n0, PyData.none) : TC) :: rest).map colD))), x7] := by
  obtain ⟨ε', e1, L', rest, x7, k1, k2, k3, rfl⟩ := loop_nx (p := .nm 7) (body := Ti) (fun i ε => ∃ (L' : List D) (rest : List TC) (x7 : Option SV), Bx (T + 2 * (i : Int)) L' ∧ rest.map (·.1) = ns.take i ∧ (∀ c ∈ rest, Wd c.2) ∧
      ε = [sB L', a1, a2, a3, a4, some (.own (.lst ((n0 :: ns).map dL))), some (.own (.lst ((((n0, PyData.none) : TC) :: rest).map colD))), x7])
    (ds := ns.map dL) (k := 0) (ε := [sB L, a1, a2, a3, a4, some (.own (.lst ((n0 :: ns).map dL))), some (.own (.lst [colD (n0, .none)])), a7])
    ⟨L, [], a7, by simpa using h, by simp, (fun _ h => by cases h), rfl⟩ (fun i d ε hi hI => by
      obtain ⟨L', rest, x7, k1, k2, k3, rfl⟩ := hI
      obtain ⟨n, hn, rfl⟩ := get_map hi
      rw [Nat.zero_add] at *
      have hil := lt_get hn
      obtain ⟨L1, a, L2, b, w, h2, hw, q1, q2, q3⟩ := worthC k1 (by omega)
      have hr : rest.length = i := by
        have := congrArg List.length k2
        rw [List.length_map, List.length_take] at this
        omega
      have hsz : rest.length + 1 < sizeLine := by rw [sizeLine_eq]; omega
      have h2s := M4.two_le
      have h3s : (3 : Nat) ≤ sizeLine := sz_of (by omega)
      refine ⟨[sB L', a1, a2, a3, a4, some (.own (.lst ((n0 :: ns).map dL))), some (.own (.lst ((((n0, PyData.none) : TC) :: rest).map colD))), some (.fro (dL n))], _, by simp, ?_, L2, rest ++ [(n, w)], some (.fro (dL n)), h2.mono (by omega), ?_, ?_, rfl⟩
      · have hlen : ((((n0, PyData.none) : TC) :: rest).map colD).length < sizeLine := by simpa using hsz
        have em : (((n0, PyData.none) : TC) :: (rest ++ [(n, w)])).map colD = (((n0, PyData.none) : TC) :: rest).map colD ++ [.tuple [dL n, w]] := by simp [colD]
        rw [em]
        generalize (((n0, PyData.none) : TC) :: rest).map colD = F at *
        generalize (n0 :: ns).map dL = G at *
        simp [Ti, q1, q2, gSub_i, gPow, q3, hlen, h2s, h3s]
      · rw [List.map_append, k2, take_get hn]; rfl
      · intro c hc
        rcases List.mem_append.mp hc with hc | hc
        · exact k3 c hc
        · rw [List.mem_singleton.mp hc]; exact hw)
  rw [List.length_map, Nat.zero_add] at *
  rw [List.take_length] at k2
  have g1 : gSl (.list ((n0 :: ns).map dL)) (some 1) none = some (.newl (ns.map dL)) := by
    show some (Out.newl (M3.cutD _ (some 1) none)) = _
    rw [cut_from _ (by omega)]
    rfl
  refine ⟨L', rest, x7, k1.mono (by omega), k2, k3, ?_⟩
  generalize (((n0, PyData.none) : TC) :: rest).map colD = F at *
  generalize (n0 :: ns).map dL = G at *
  simp [Tl3_is, g1, e1]
/-- a list kept or frozen -/
def KL (x : Option SV) (l : List D) : Prop := x = some (.own (.lst l)) ∨ x = some (.fro (.list l))
theorem tl_ok {T : Int} {L : List D} (h : Bx T L) (hT : T < 600000) (a1 a5 a6 a7 x3 : Option SV) (SH : List (List Nat)) (hS : SH.length = 5) (hS2 : ∀ l ∈ SH, Gn l) (hS3 : SH.Nodup) (hx : KL x3 (SH.map dL)) (acc : List D) (hacc : acc.length < 1000) (n : List Nat) :
    ∃ L' cols x5 x6 x7, Bx (T + 30) L' ∧ GoodC cols ∧ Tl [sB L, a1, some (.own (.lst acc)), x3, some (.fro (dL n)), a5, a6, a7] = .nx [sB L', a1, some (.own (.lst (acc ++ [tblD (n, cols)]))), some (.fro (.list (SH.map dL))), some (.fro (dL n)), x5, x6, x7] := by
  obtain ⟨L1, NW, h1, w1, w2, w3, e1⟩ := namesC h (by omega) 5 (by omega) (by omega)
  obtain ⟨j, L2, j0, j1, h2, e2⟩ := takeB (m := 2) h1 (by omega) (by omega) (by omega)
  obtain ⟨q, L3, q0, q1, h3, e3⟩ := takeB (m := 5) h2 (by omega) (by omega) (by omega)
  obtain ⟨NS, s1, s2, s3, gi⟩ : ∃ NS : List (List Nat), NS.length = 5 ∧ (∀ l ∈ NS, Gn l) ∧ NS.Nodup ∧ gIx (.list [.list (SH.map dL), .list (NW.map dL)]) (.int j) = some (.val (.list (NS.map dL))) := by
    have : j = 0 ∨ j = 1 := by omega
    rcases this with rfl | rfl
    · exact ⟨SH, hS, hS2, hS3, by simp [gIx, atI, ixN]⟩
    · exact ⟨NW, w1, w2, w3, by simp [gIx, atI, ixN]⟩
  have hq : (1 + q).toNat ≤ 5 ∧ 1 ≤ (1 + q).toNat := by omega
  obtain ⟨n0, ns, en⟩ : ∃ n0 ns, NS.take (1 + q).toNat = n0 :: ns := by
    cases e : NS.take (1 + q).toNat with
    | nil =>
      have := congrArg List.length e
      rw [List.length_take, List.length_nil] at this
      omega
    | cons a b => exact ⟨a, b, rfl⟩
  have hnl : ns.length ≤ 4 := by
    have := congrArg List.length en
    rw [List.length_take, List.length_cons] at this
    omega
  have gs : gSl (.list (NS.map dL)) none (some (1 + q)) = some (.newl ((n0 :: ns).map dL)) := by
    show some (Out.newl (M3.cutD _ none (some (1 + q)))) = _
    rw [cut_to _ (by omega), ← en, List.map_take]
  have h2s := M4.two_le
  have h1s : (1 : Nat) ≤ sizeLine := sz_of (by omega)
  have f1 : Tl1 [sB L, a1, some (.own (.lst acc)), x3, some (.fro (dL n)), a5, a6, a7] = .nx [sB L3, a1, some (.own (.lst acc)), some (.fro (.list (SH.map dL))), some (.fro (dL n)), some (.own (.lst ((n0 :: ns).map dL))), a6, a7] := by
    generalize (n0 :: ns).map dL = G at *
    generalize SH.map dL = G1 at *
    generalize NW.map dL = G2 at *
    generalize NS.map dL = G3 at *
    rcases hx with rfl | rfl
    · simp only [Tl1, x_set]
      simp [e1, e2, e3, gi, gAdd_i, gs, h2s]
    · simp only [Tl1, x_set]
      simp [e1, e2, e3, gi, gAdd_i, gs, h2s]
  have g0 : gIx (.list ((n0 :: ns).map dL)) (.int 0) = some (.val (dL n0)) := by simp [gIx, atI, ixN]
  have f2 : Tl2 [sB L3, a1, some (.own (.lst acc)), some (.fro (.list (SH.map dL))), some (.fro (dL n)), some (.own (.lst ((n0 :: ns).map dL))), a6, a7] = .nx [sB L3, a1, some (.own (.lst acc)), some (.fro (.list (SH.map dL))), some (.fro (dL n)), some (.own (.lst ((n0 :: ns).map dL))), some (.own (.lst [colD (n0, .none)])), a7] := by
    generalize (n0 :: ns).map dL = G at *
    simp [Tl2, g0, h1s, h2s, colD]
  obtain ⟨L4, rest, x7, h4, k2, k3, f3⟩ := tl3 h3 (by omega) a1 (some (.own (.lst acc))) (some (.fro (.list (SH.map dL)))) (some (.fro (dL n))) a7 n0 ns hnl
  have hrl : rest.length = ns.length := by rw [← k2, List.length_map]
  have hsz : ((((n0, PyData.none) : TC) :: rest).map colD).length ≤ sizeLine := by
    rw [List.length_map, List.length_cons]
    exact sz_of (by omega)
  have hsz2 : acc.length < sizeLine := by rw [sizeLine_eq]; omega
  have sub : (n0 :: ns).Sublist NS := by rw [← en]; exact List.take_sublist _ _
  refine ⟨L4, (n0, .none) :: rest, some (.own (.lst ((n0 :: ns).map dL))), some (.own (.lst ((((n0, PyData.none) : TC) :: rest).map colD))), x7, h4.mono (by omega), ⟨by simp, by simp; omega, ?_, ?_, ?_⟩, ?_⟩
  · rw [List.map_cons, k2]
    exact s3.sublist sub
  · intro c hc
    rcases List.mem_cons.mp hc with rfl | hc
    · exact ⟨s2 _ (sub.subset List.mem_cons_self), .inl rfl⟩
    · have m1 : c.1 ∈ ns := by rw [← k2]; exact List.mem_map_of_mem hc
      exact ⟨s2 _ (sub.subset (List.mem_cons_of_mem _ m1)), k3 c hc⟩
  · intro c r e
    injection e with e1 e2
    rw [← e1]
  · have f4 : Tl4 [sB L4, a1, some (.own (.lst acc)), some (.fro (.list (SH.map dL))), some (.fro (dL n)), some (.own (.lst ((n0 :: ns).map dL))), some (.own (.lst ((((n0, PyData.none) : TC) :: rest).map colD))), x7] = .nx [sB L4, a1, some (.own (.lst (acc ++ [tblD (n, (n0, .none) :: rest)]))), some (.fro (.list (SH.map dL))), some (.fro (dL n)), some (.own (.lst ((n0 :: ns).map dL))), some (.own (.lst ((((n0, PyData.none) : TC) :: rest).map colD))), x7] := by
      have et : tblD (n, (n0, .none) :: rest) = .tuple [dL n, .tuple ((((n0, PyData.none) : TC) :: rest).map colD)] := rfl
      rw [et]
      generalize (((n0, PyData.none) : TC) :: rest).map colD = F at *
      generalize (n0 :: ns).map dL = G at *
      simp [Tl4, gTuple, outR, hsz, hsz2, h2s]
    unfold Tl
    rw [x_seq, f1, x_q1, x_seq, f2, x_q1, x_seq, f3, x_q1, f4]
end GC

namespace GC
open PySem PySem.Spec L2 M3 M4 M5
open PyProof.Rows hiding St
end GC

namespace GC
open PySem PySem.Spec L2 M3 M4 M5
open PyProof.Rows hiding St
def NSx (w z : Str) : Xn := ⟨"NoSuch", [("name", .str z), ("what", .str w)]⟩
@[simp] theorem x_raise {cls : Str} {fs : List Str} {dm : M (List D)} {ε : En} : sRaise cls fs dm ε = (dm ε).toS fun ds ε1 => if ds.length = fs.length ∧ fs.length ≤ 900 then .err ⟨cls, (fs.zip ds).reverse⟩ ε1 else .bad := rfl

theorem tl_found (a0 : Option SV) : ∀ (xs : List M5.TT) (i k : Nat) (x y w : Option SV) (t : M5.TT), (∀ t ∈ xs, Gn t.1) → (xs.map (·.1)).Nodup → xs[k]? = some t →
    ∃ y' w', sLoop (.tp [.nm 2, .tp [.nm 3, .nm 4]]) (sIf (mBl (mOp (bo gEq) (oE (mVar 3)) (oE (mVar 1)))) (sRet (mVar 2)) sNext) (enumD i (xs.map tblD)) [a0, fS (sL t.1), x, y, w] = .rt (.fro (.int ((i + k : Nat) : Int))) [a0, fS (sL t.1), some (.fro (.int ((i + k : Nat) : Int))), y', w']
  | [], _, _, _, _, _, _, _, _, h => by cases h
  | s :: xs, i, k, x, y, w, t, hg, hn, h => by
    have gt : Gn t.1 := hg t (List.mem_of_getElem? h)
    have g := gEq_str (hg s List.mem_cons_self).shd gt.shd
    rw [List.map_cons, List.nodup_cons] at hn
    cases k with
    | zero =>
      cases h
      have g' : gEq (dL s.1) (.str (sL s.1)) = some true := by
        rw [beq_self_eq_true] at g; exact g
      exact ⟨some (.fro (dL s.1)), some (.fro (.tuple (s.2.map colD))), by rw [List.map_cons]; unfold enumD sLoop; simp [tblD, g']⟩
    | succ k =>
      have h' : xs[k]? = some t := h
      have ne : sL s.1 ≠ sL t.1 := fun z => hn.1 (by rw [sL_inj z]; exact List.mem_map_of_mem (List.mem_of_getElem? h'))
      have g' : gEq (dL s.1) (.str (sL t.1)) = some false := by
        have h2 : (sL s.1 == sL t.1) = false := by simpa using ne
        rw [h2] at g; exact g
      obtain ⟨y', w', e1⟩ := tl_found a0 xs (i + 1) k (fI i) (some (.fro (dL s.1))) (some (.fro (.tuple (s.2.map colD)))) t (fun s hs => hg s (List.mem_cons_of_mem _ hs)) hn.2 h'
      have ek : i + 1 + k = i + (k + 1) := by omega
      rw [ek] at e1
      exact ⟨y', w', by rw [List.map_cons]; unfold enumD sLoop; simp [tblD, g', e1]⟩
theorem cl_found (a0 a1 : Option SV) : ∀ (xs : List TC) (i k : Nat) (x y w : Option SV) (t : TC), (∀ t ∈ xs, Gn t.1) → (xs.map (·.1)).Nodup → xs[k]? = some t →
    ∃ y' w', sLoop (.tp [.nm 3, .tp [.nm 4, .nm 5]]) (sIf (mBl (mOp (bo gEq) (oE (mVar 4)) (oE (mVar 2)))) (sRet (mVar 3)) sNext) (enumD i (xs.map colD)) [a0, a1, fS (sL t.1), x, y, w] = .rt (.fro (.int ((i + k : Nat) : Int))) [a0, a1, fS (sL t.1), some (.fro (.int ((i + k : Nat) : Int))), y', w']
  | [], _, _, _, _, _, _, _, _, h => by cases h
  | s :: xs, i, k, x, y, w, t, hg, hn, h => by
    have gt : Gn t.1 := hg t (List.mem_of_getElem? h)
    have g := gEq_str (hg s List.mem_cons_self).shd gt.shd
    rw [List.map_cons, List.nodup_cons] at hn
    cases k with
    | zero =>
      cases h
      have g' : gEq (dL s.1) (.str (sL s.1)) = some true := by
        rw [beq_self_eq_true] at g; exact g
      exact ⟨some (.fro (dL s.1)), some (.fro s.2), by rw [List.map_cons]; unfold enumD sLoop; simp [colD, g']⟩
    | succ k =>
      have h' : xs[k]? = some t := h
      have ne : sL s.1 ≠ sL t.1 := fun z => hn.1 (by rw [sL_inj z]; exact List.mem_map_of_mem (List.mem_of_getElem? h'))
      have g' : gEq (dL s.1) (.str (sL t.1)) = some false := by
        have h2 : (sL s.1 == sL t.1) = false := by simpa using ne
        rw [h2] at g; exact g
      obtain ⟨y', w', e1⟩ := cl_found a0 a1 xs (i + 1) k (fI i) (some (.fro (dL s.1))) (some (.fro s.2)) t (fun s hs => hg s (List.mem_cons_of_mem _ hs)) hn.2 h'
      have ek : i + 1 + k = i + (k + 1) := by omega
      rw [ek] at e1
      exact ⟨y', w', by rw [List.map_cons]; unfold enumD sLoop; simp [colD, g', e1]⟩
section
variable {ts : List M5.TT} (hT : GoodT ts)
include hT
theorem e_tp {k : Nat} {t : M5.TT} (h : ts[k]? = some t) : F_table_place [fT ts, fS (sL t.1)] = .ok (.fro (.int (k : Int))) [fT ts, fS (sL t.1)] := by
  obtain ⟨y', w', e⟩ := tl_found (fT ts) ts 0 k none none none t (fun t ht => (hT.g t ht).1) hT.nd h
  rw [Nat.zero_add] at e
  simp [F_table_place, B_table_place, e]
theorem e_co {k : Nat} {t : M5.TT} (h : ts[k]? = some t) : F_columns_of [fT ts, fS (sL t.1)] = .ok (.fro (.tuple (t.2.map colD))) [fT ts, fS (sL t.1)] := by
  have e := e_tp hT h
  have g1 := gIx_t (ds := ts.map tblD) (k := k) (d := tblD t) (by rw [List.getElem?_map, h]; rfl)
  have g2 : gIx (tblD t) (.int 1) = some (.val (.tuple (t.2.map colD))) := by simp [tblD, gIx, atI, ixN]
  simp [F_columns_of, B_columns_of, e, g1, g2]
theorem e_cp {k j : Nat} {t : M5.TT} {c : TC} (h : ts[k]? = some t) (hc : t.2[j]? = some c) : F_column_place [fT ts, fS (sL t.1), fS (sL c.1)] = .ok (.fro (.int (j : Int))) [fT ts, fS (sL t.1), fS (sL c.1)] := by
  have gc := (hT.g t (List.mem_of_getElem? h)).2
  obtain ⟨y', w', e⟩ := cl_found (fT ts) (fS (sL t.1)) t.2 0 j none none none c (fun c hc => (gc.g c hc).1) gc.nd hc
  rw [Nat.zero_add] at e
  simp [F_column_place, B_column_place, e_co hT h, e]
end
/-! ### ties -/
/-- a plan, as told or as lists -/
structure Pl (P T Yd : D) (g : TY → D) (ys : List TY) : Prop where
  g0 : gIx P (.int 0) = some (.val T)
  g1 : gIx P (.int 1) = some (.val Yd)
  it : itemsD Yd = some (ys.map g)
  tp : ∀ y ∈ ys, ∀ ε : En, outR (gTuple [g y]) ε = .ok (.fro (tieD y)) ε
  n : ∀ y ∈ ys, gIx (g y) (.int 0) = some (.val (dL y.n))
  o : ∀ y ∈ ys, gIx (g y) (.int 3) = some (.val (dL y.o.1))
section
variable {P T Yd : D} {g : TY → D} {ys : List TY} (hp : Pl P T Yd g ys) (hg : ∀ y ∈ ys, Gn y.n ∧ Gn y.o.1)
include hp hg
end
end GC

namespace GC
open PySem PySem.Spec L2 M3 M4 M5
open PyProof.Rows hiding St
/-! ### _law_same of a thing and itself -/
def Sw : Nat → D → Prop
  | _, .none => True
  | _, .bool _ => True
  | _, .int _ => True
  | _, .str _ => True
  | n + 1, .list ds => ds.length ≤ 1000 ∧ ∀ x ∈ ds, Sw n x
  | n + 1, .tuple ds => ds.length ≤ 1000 ∧ ∀ x ∈ ds, Sw n x
  | _, _ => False
theorem zip_same : ∀ ds : List D, zipD ds ds = ds.map fun x => .tuple [x, x]
  | [] => rfl
  | x :: ds => by
    show .tuple [x, x] :: zipD ds ds = _
    rw [zip_same ds]; rfl
theorem gNe_bool (a b : Bool) : gNe (.bool a) (.bool b) = some (!(a == b)) := by
  unfold gNe
  rw [if_pos ⟨sh_bool a, sh_bool b⟩]
  simp [PyData.eqv]
theorem trues : ∀ n : Nat, blsD (List.replicate n (PyData.bool true)) = some (List.replicate n true)
  | 0 => rfl
  | n + 1 => by
    have := trues n
    rw [List.replicate_succ, List.replicate_succ]
    simp [blsD, this]
theorem trues2 (ds : List D) : blsD (ds.map fun _ => PyData.bool true) = some (List.replicate ds.length true) := by
  have e : (ds.map fun _ => PyData.bool true) = List.replicate ds.length (PyData.bool true) := List.map_const' ..
  rw [e, trues]
theorem same_seq (G : M RV) (X : D) (ds : List D) (hX : X = .list ds ∨ X = .tuple ds) (hl : ds.length ≤ 1000) (h : ∀ x ∈ ds, G [some (.fro x), some (.fro x)] = .ok (.fro (.bool true)) [some (.fro x), some (.fro x)]) :
    fnF [0, 1] 4 (B_law_same G) [some (.fro X), some (.fro X)] = .ok (.fro (.bool true)) [some (.fro X), some (.fro X)] := by
  have e := lc_map (p := .tp [.nm 2, .nm 3]) (vs := [2, 3]) (m := fE (oE (mCall 2 G (msCons (oE (mVar 2)) (msCons (oE (mVar 3)) msNil))))) (g := fun x => .tuple [x, x]) (f := fun _ => .bool true) (ε := [some (.fro X), some (.fro X), none, none]) (xs := ds) (acc := [])
    (fun x hx => ⟨_, _, by simp; rfl, by simp [h x hx]; rfl, by simp⟩) (by have := sz_of hl; simpa using this)
  rcases hX with rfl | rfl
  · simp [B_law_same, isiAny, isi_list, isi_tuple, is_list, is_tuple, gNe_bool, gLen, gEq_int, seqD, mZip, zip_same, e, gAll, trues, trues2]
  · simp [B_law_same, isiAny, isi_list, isi_tuple, is_list, is_tuple, gNe_bool, gLen, gEq_int, seqD, mZip, zip_same, e, gAll, trues, trues2]
theorem same_ok : ∀ (n : Nat) (d : D), Sw n d → F_law_same (n + 1) [some (.fro d), some (.fro d)] = .ok (.fro (.bool true)) [some (.fro d), some (.fro d)]
  | n, .none, _ => by
    have e : gEq .none .none = some true := by decide +kernel
    simp [F_law_same, B_law_same, isiAny, isi_list, isi_tuple, is_list, is_tuple, gIsN, isNoneD, e, isi_bool, M4.is_bool, gEq_bool]
  | n, .bool b, _ => by simp [F_law_same, B_law_same, isiAny, isi_list, isi_tuple, is_list, is_tuple, gIsN, isNoneD, isi_bool, M4.is_bool, isi_str, is_str, gEq_bool]
  | n, .int b, _ => by simp [F_law_same, B_law_same, isiAny, isi_list, isi_tuple, is_list, is_tuple, gIsN, isNoneD, isi_bool, M4.is_bool, isi_str, is_str, isi_int, M4.is_int, gEq_int]
  | n, .str b, _ => by simp [F_law_same, B_law_same, isiAny, isi_list, isi_tuple, is_list, is_tuple, gIsN, isNoneD, isi_bool, M4.is_bool, isi_str, is_str, gEq_same, gEq_bool]
  | 0, .list ds, h => h.elim
  | 0, .tuple ds, h => h.elim
  | n + 1, .list ds, h => by
    unfold Sw at h
    exact same_seq (F_law_same (n + 1)) (.list ds) ds (.inl rfl) h.1 fun x hx => same_ok n x (h.2 x hx)
  | n + 1, .tuple ds, h => by
    unfold Sw at h
    exact same_seq (F_law_same (n + 1)) (.tuple ds) ds (.inr rfl) h.1 fun x hx => same_ok n x (h.2 x hx)
  | 0, .dict _, h => h.elim
  | n + 1, .dict _, h => h.elim
theorem same12 {d : D} (h : Sw 11 d) : F_law_same 12 [some (.fro d), some (.fro d)] = .ok (.fro (.bool true)) [some (.fro d), some (.fro d)] := same_ok 11 d h

/-! ### where a name stands -/
theorem keys_L : ∀ ls : List (List Nat), keysD (ls.map dL) = some (ls.map fun l => (Sum.inr (sL l) : Key))
  | [] => rfl
  | l :: ls => by
    rw [List.map_cons, List.map_cons]
    show (keysD (ls.map dL)).map _ = _
    rw [keys_L ls]
    rfl
theorem ixK_L : ∀ {ls : List (List Nat)} {k : Nat} {x : List Nat}, ls.Nodup → ls[k]? = some x → ixK (.inr (sL x)) (ls.map fun l => (Sum.inr (sL l) : Key)) = some k
  | [], _, _, _, h => by cases h
  | l :: ls, 0, x, _, h => by
    cases h
    rw [List.map_cons]
    unfold ixK
    rw [if_pos rfl]
  | l :: ls, k + 1, x, hn, h => by
    have h' : ls[k]? = some x := h
    have hn2 := List.nodup_cons.mp hn
    have ne : (Sum.inr (sL l) : Key) ≠ Sum.inr (sL x) := fun z => by
      injection z with z
      exact hn2.1 (by rw [sL_inj z]; exact List.mem_of_getElem? h')
    rw [List.map_cons]
    unfold ixK
    rw [if_neg ne, ixK_L hn2.2 h']
    rfl
theorem gIdx_L {ls : List (List Nat)} {k : Nat} {x : List Nat} (hn : ls.Nodup) (h : ls[k]? = some x) : gIndex (.list (ls.map dL)) [dL x] = some (.val (.int (k : Int))) := by
  have e1 := keys_L ls
  have e2 : keysD [dL x] = some [(Sum.inr (sL x) : Key)] := rfl
  unfold gIndex
  dsimp only
  rw [e1, e2]
  dsimp only
  rw [ixK_L hn h]
  rfl
end GC

namespace GC
open PySem PySem.Spec L2 M3 M4 M5
open PyProof.Rows hiding St
def Cn1 : Sm := (sPar [4, 5] (msCons (mLst dsNil) (msCons (mLst dsNil) msNil)))
def Cn2 : Sm := (sFor (mIt (fE (oE (mVar 1)))) (.nm 6) (sSeq (sSet 7 (mLc (mRng1 (msCons (oE (mCall 2 F_law_take (msCons (oE (mVar 0)) (msCons (oE (mOp gAdd (oE (mVar 3)) (oE (mC (.int 1))))) msNil)))) msNil)) (.nm 8) [8] mYes (fE (oE (mOp M3.gSub (oE (mCall 2 F_law_take (msCons (oE (mVar 0)) (msCons (oE (mC (.int 12))) msNil)))) (oE (mC (.int 3))))))))
    (sAppend 4 (fE (oE (mSortSet (oE (mOp gAdd (oE (mVar 7)) (oE (mOp gMul (oE (mLst (dsCons (fE (oE (mOp gPow (oE (mC (.int 10))) (oE (mC (.int 9)))))) dsNil))) (oE (mCallB gInt (msCons (oE (mOp (bo gEq) (oE (mCall 2 F_law_take (msCons (oE (mVar 0)) (msCons (oE (mC (.int 9))) msNil)))) (oE (mC (.int 0))))) msNil)))))))))))))
def Cn3 : Sm := (sFor (mEnum (dsCons (fE (oE (mVar 1))) dsNil)) (.tp [(.nm 9), (.tp [(.nm 6), (.nm 10)])]) (sSeq (sSet 11 (mLst dsNil))
    (sSeq (sFor (mIt (fE (oE (mOp gIx (oE (mVar 4)) (oE (mVar 9)))))) (.nm 12) (sSeq (sSet 13 (mLst (dsCons (fE (oE (mVar 12))) dsNil)))
    (sSeq (sFor (mIt (fE (oE (mSl gSl (oE (mVar 10)) (mPart (oE (mC (.int 1)))) mNoPart)))) (.tp [(.nm 14), (.nm 15)]) (sSeq (sSet 16 (mLc (mIt (fE (oE (mVar 2)))) (.nm 17) [17] (mBl (mOp (bo gEq) (oE (mSl gSl (oE (mVar 17)) (mPart (oE (mC (.int 1)))) (mPart (oE (mC (.int 3)))))) (oE (mTup (dsCons (fE (oE (mVar 6))) (dsCons (fE (oE (mVar 14))) dsNil)))))) (fE (oE (mOp gIx (oE (mVar 17)) (oE (mC (.int 3))))))))
    (sSeq (sSet 7 (mLst (dsCons (fE (oE (mC (.int 0)))) (dsCons (fE (oE (mC (.int 1)))) (dsCons (fE (oE (mC (.int 2)))) dsNil)))))
    (sSeq (sIf (mBl (mOp (bo gNe) (oE (mVar 16)) (oE (mLst dsNil)))) (sSet 7 (mOp gIx (oE (mVar 4)) (oE (mCall 2 F_law_place (msCons (oE (mVar 1)) (msCons (oE (mOp gIx (oE (mVar 16)) (oE (mCall 2 F_law_take (msCons (oE (mVar 0)) (msCons (oE (mCallB gLen (msCons (oE (mVar 16)) msNil))) msNil)))))) msNil)))))) sNext)
    (sSeq (sSet 18 (mOp gAdd (oE (mLst (dsCons (fE (oE (mC .none))) (dsCons (fE (oE (mVar 15))) (dsCons (fE (oE (mOp M3.gSub (oE (mCall 2 F_law_take (msCons (oE (mVar 0)) (msCons (oE (mC (.int 12))) msNil)))) (oE (mC (.int 3)))))) dsNil))))) (oE (mSl gSl (oE (mOp gAdd (oE (mOp gAdd (oE (mVar 7)) (oE (mVar 7)))) (oE (mVar 7)))) mNoPart (mPart (oE (mC (.int 24))))))))
    (sAppend 13 (fE (oE (mOp gIx (oE (mVar 18)) (oE (mCall 2 F_law_take (msCons (oE (mVar 0)) (msCons (oE (mCallB gLen (msCons (oE (mVar 18)) msNil))) msNil)))))))))))))
    (sAppend 11 (fE (oE (mCallB gTuple (msCons (oE (mVar 13)) msNil))))))))
    (sAppend 5 (fE (oE (mVar 11)))))))
def Cn4 : Sm := (sRet (mVar 5))
def Cc1 : Sm := (sSet 13 (mLst (dsCons (fE (oE (mVar 12))) dsNil)))
def Cc2 : Sm := (sFor (mIt (fE (oE (mSl gSl (oE (mVar 10)) (mPart (oE (mC (.int 1)))) mNoPart)))) (.tp [(.nm 14), (.nm 15)]) (sSeq (sSet 16 (mLc (mIt (fE (oE (mVar 2)))) (.nm 17) [17] (mBl (mOp (bo gEq) (oE (mSl gSl (oE (mVar 17)) (mPart (oE (mC (.int 1)))) (mPart (oE (mC (.int 3)))))) (oE (mTup (dsCons (fE (oE (mVar 6))) (dsCons (fE (oE (mVar 14))) dsNil)))))) (fE (oE (mOp gIx (oE (mVar 17)) (oE (mC (.int 3))))))))
    (sSeq (sSet 7 (mLst (dsCons (fE (oE (mC (.int 0)))) (dsCons (fE (oE (mC (.int 1)))) (dsCons (fE (oE (mC (.int 2)))) dsNil)))))
    (sSeq (sIf (mBl (mOp (bo gNe) (oE (mVar 16)) (oE (mLst dsNil)))) (sSet 7 (mOp gIx (oE (mVar 4)) (oE (mCall 2 F_law_place (msCons (oE (mVar 1)) (msCons (oE (mOp gIx (oE (mVar 16)) (oE (mCall 2 F_law_take (msCons (oE (mVar 0)) (msCons (oE (mCallB gLen (msCons (oE (mVar 16)) msNil))) msNil)))))) msNil)))))) sNext)
    (sSeq (sSet 18 (mOp gAdd (oE (mLst (dsCons (fE (oE (mC .none))) (dsCons (fE (oE (mVar 15))) (dsCons (fE (oE (mOp M3.gSub (oE (mCall 2 F_law_take (msCons (oE (mVar 0)) (msCons (oE (mC (.int 12))) msNil)))) (oE (mC (.int 3)))))) dsNil))))) (oE (mSl gSl (oE (mOp gAdd (oE (mOp gAdd (oE (mVar 7)) (oE (mVar 7)))) (oE (mVar 7)))) mNoPart (mPart (oE (mC (.int 24))))))))
    (sAppend 13 (fE (oE (mOp gIx (oE (mVar 18)) (oE (mCall 2 F_law_take (msCons (oE (mVar 0)) (msCons (oE (mCallB gLen (msCons (oE (mVar 18)) msNil))) msNil)))))))))))))
def Cc3 : Sm := (sAppend 11 (fE (oE (mCallB gTuple (msCons (oE (mVar 13)) msNil)))))
def Cc : Sm := sSeq Cc1 (sSeq Cc2 Cc3)
theorem B_law_content_is : B_law_content = sSeq Cn1 (sSeq Cn2 (sSeq Cn3 Cn4)) := rfl
/-- marks of one table -/
structure MkOk (m : List Int) : Prop where
  up : m.Pairwise (· < ·)
  l : m.length ≤ 10
  b : ∀ i ∈ m, -1000000000 ≤ i ∧ i ≤ 1000000000
section
variable (ts : List M5.TT) (ys : List TY)
end
end GC

namespace GC
open PySem PySem.Spec L2 M3 M4 M5
open PyProof.Rows hiding St
theorem sl13 (y : TY) : gSl (tieD y) (some 1) (some 3) = some (.newt [dL y.t.1, dL y.c.1]) := by
  unfold tieD gSl
  dsimp only
  have e : HT.sIx 7 0 (some 1) ≠ 0 := by decide
  rw [if_neg (fun z => e z.1)]
  rfl
theorem gIx_ln {ds : List D} {k : Nat} {d : D} (h : ds[k]? = some d) : gIx (.list ds) (.int (k : Int)) = some (.val d) := by
  have hl := lt_get h
  show (L2.atI ds (k : Int)).map _ = _
  unfold L2.atI
  rw [ixN_lt (by omega) (by omega)]
  show ((ds[(k : Int).toNat]?).map _) = _
  rw [Int.toNat_natCast, h]
  rfl
section
variable {ts : List M5.TT} (hT : GoodT ts) (hl : ts.length ≤ 10) {ys : List TY} (hg : ∀ y ∈ ys, GoodY ts y) (hy : ys.length ≤ 12) {MK : List (List Int)} (hM : MK.length = ts.length) (hM2 : ∀ m ∈ MK, MkOk m)
include hT hl hg hy hM hM2
end
end GC

namespace GC
open PySem PySem.Spec L2 M3 M4 M5
open PyProof.Rows hiding St
abbrev RX := Int × List D
def rowC (r : RX) : D := .tuple (.int r.1 :: r.2)
def rowsC (rs : List RX) : D := .list (rs.map rowC)
structure RowOk (cols : List TC) (r : RX) : Prop where
  l : r.2.length + 1 = cols.length
  w : ∀ d ∈ r.2, Wd d
  b : -1000000000 ≤ r.1 ∧ r.1 ≤ 1000000000
structure RowsOk (cols : List TC) (rs : List RX) : Prop where
  r : ∀ r ∈ rs, RowOk cols r
  up : (rs.map (·.1)).Pairwise (· < ·)
  l : rs.length ≤ 10
section
variable {ts : List M5.TT} (hT : GoodT ts) (hl : ts.length ≤ 10) {ys : List TY} (hg : ∀ y ∈ ys, GoodY ts y) (hy : ys.length ≤ 12) {MK : List (List Int)} (hM : MK.length = ts.length) (hM2 : ∀ m ∈ MK, MkOk m)
include hT hl hg hy hM hM2
end
end GC

namespace GC
open PySem PySem.Spec L2 M3 M4 M5
open PyProof.Rows hiding St
/-- a content for tables -/
structure CtOk (ts : List M5.TT) (ct : List (List RX)) : Prop where
  l : ct.length = ts.length
  g : ∀ (k : Nat) t rs, ts[k]? = some t → ct[k]? = some rs → RowsOk t.2 rs
end GC

namespace GC
open PySem PySem.Spec L2 M3 M4 M5
open PyProof.Rows hiding St
/-! ### cells compared -/
def wEq : D → D → Bool
  | .none, .none => true
  | .int i, .int j => i == j
  | _, _ => false
theorem gEq_wd {a b : D} (ha : Wd a) (hb : Wd b) : gEq a b = some (wEq a b) := by
  have e : ∀ {a b : D}, SeqAt.shaped a = true → SeqAt.shaped b = true → gEq a b = some (PyData.eqv a b) := fun h1 h2 => by
    unfold gEq; rw [if_pos ⟨h1, h2⟩]
  have s0 : SeqAt.shaped PyData.none = true := by decide +kernel
  rcases ha with rfl | ⟨i, rfl, _, _⟩
  · rcases hb with rfl | ⟨j, rfl, _, _⟩
    · rw [e s0 s0]; simp [PyData.eqv, wEq]
    · rw [e s0 (sh_int j)]; simp [PyData.eqv, wEq]
  · rcases hb with rfl | ⟨j, rfl, _, _⟩
    · rw [e (sh_int i) s0]; simp [PyData.eqv, wEq]
    · rw [gEq_int]; rfl
theorem wEq_iff {a b : D} (ha : Wd a) (hb : Wd b) : wEq a b = true ↔ a = b := by
  rcases ha with rfl | ⟨i, rfl, _, _⟩
  · rcases hb with rfl | ⟨j, rfl, _, _⟩
    · simp [wEq]
    · simp [wEq]
  · rcases hb with rfl | ⟨j, rfl, _, _⟩
    · simp [wEq]
    · simp [wEq]
/-! ### contents as handed in -/
def rowL (r : RX) : D := .list (.int r.1 :: r.2)
structure HdOk (ts : List M5.TT) (HD : D) (rg : RX → D) (ct : List (List RX)) : Prop where
  ix : ∀ (k : Nat) rs, ct[k]? = some rs → ∃ R, gIx HD (.int (k : Int)) = some (.val R) ∧ itemsD R = some (rs.map rg)
  cell : ∀ (r : RX) (j : Nat) d, (PyData.int r.1 :: r.2)[j]? = some d → gIx (rg r) (.int (j : Int)) = some (.val d)
  tp : ∀ (r : RX) (ε : En), r.2.length ≤ 100 → outR (gTuple [rg r]) ε = .ok (.fro (rowC r)) ε
theorem hd_cell {rg : RX → D} (h : rg = rowC ∨ rg = rowL) (r : RX) (j : Nat) (d : D) (e : (PyData.int r.1 :: r.2)[j]? = some d) : gIx (rg r) (.int (j : Int)) = some (.val d) := by
  rcases h with rfl | rfl
  · exact gIx_t e
  · exact gIx_ln e
theorem hd_tp {rg : RX → D} (h : rg = rowC ∨ rg = rowL) (r : RX) (ε : En) (hl : r.2.length ≤ 100) : outR (gTuple [rg r]) ε = .ok (.fro (rowC r)) ε := by
  rcases h with rfl | rfl
  · simp [gTuple, rowC, outR]
  · have : r.2.length + 1 ≤ sizeLine := sz_of (by omega)
    simp [gTuple, rowC, rowL, outR, this]
def H0 (ct : List (List RX)) : D := .list (ct.map rowsC)
def H1 (ct : List (List RX)) : D := .list (ct.map fun rs => .list (rs.map rowL))
def H2 (ct : List (List RX)) : D := .tuple (ct.map fun rs => .tuple (rs.map rowC))
theorem hd0 (ts : List M5.TT) (ct : List (List RX)) : HdOk ts (H0 ct) rowC ct :=
  ⟨fun k rs h => ⟨rowsC rs, gIx_ln (by rw [List.getElem?_map, h]; rfl), rfl⟩, hd_cell (.inl rfl), hd_tp (.inl rfl)⟩
theorem hd1 (ts : List M5.TT) (ct : List (List RX)) : HdOk ts (H1 ct) rowL ct :=
  ⟨fun k rs h => ⟨_, gIx_ln (by rw [List.getElem?_map, h]; rfl), rfl⟩, hd_cell (.inr rfl), hd_tp (.inr rfl)⟩
theorem hd2 (ts : List M5.TT) (ct : List (List RX)) : HdOk ts (H2 ct) rowC ct :=
  ⟨fun k rs h => ⟨_, gIx_t (by rw [List.getElem?_map, h]; rfl), rfl⟩, hd_cell (.inl rfl), hd_tp (.inl rfl)⟩
section
variable {ts : List M5.TT} (hT : GoodT ts) {ct : List (List RX)} (hC : CtOk ts ct) {HD : D} {rg : RX → D} (hd : HdOk ts HD rg ct)
include hT hC hd
theorem e_rows {k : Nat} {t : M5.TT} {rs : List RX} (ht : ts[k]? = some t) (hr : ct[k]? = some rs) : ∃ R, itemsD R = some (rs.map rg) ∧ F_rows_of [fT ts, some (.fro HD), fS (sL t.1)] = .ok (.fro R) [fT ts, some (.fro HD), fS (sL t.1)] := by
  obtain ⟨R, g, hi⟩ := hd.ix k rs hr
  exact ⟨R, hi, by simp [F_rows_of, B_rows_of, e_tp hT ht, g]⟩
def rowOf (rs : List RX) (key : D) : D := match rs.find? fun r => wEq (.int r.1) key with
  | some r => rowC r
  | none => .none
def Rw : Sm := (sIf (mBl (mOp (bo gEq) (oE (mOp gIx (oE (mVar 4)) (oE (mC (.int 0))))) (oE (mVar 3)))) (sRet (mCallB gTuple (msCons (oE (mVar 4)) msNil))) sNext)
omit hT hC in
theorem row_loop (a0 a1 a2 : Option SV) (key : D) (hk : Wd key) : ∀ (rs : List RX) (x : Option SV), (∀ r ∈ rs, -1000000000 ≤ r.1 ∧ r.1 ≤ 1000000000 ∧ r.2.length ≤ 100) →
    (∃ r, rs.find? (fun r => wEq (.int r.1) key) = some r ∧ ∃ x', sLoop (.nm 4) Rw (rs.map rg) [a0, a1, a2, some (.fro key), x] = .rt (.fro (rowC r)) [a0, a1, a2, some (.fro key), x']) ∨
    (rs.find? (fun r => wEq (.int r.1) key) = none ∧ ∃ x', sLoop (.nm 4) Rw (rs.map rg) [a0, a1, a2, some (.fro key), x] = .nx [a0, a1, a2, some (.fro key), x'])
  | [], x, _ => .inr ⟨rfl, x, rfl⟩
  | s :: rs, x, hb => by
    have b1 := hb s List.mem_cons_self
    have g0 := hd.cell s 0 (.int s.1) rfl
    have ge := gEq_wd (a := .int s.1) (.inr ⟨_, rfl, b1.1, b1.2.1⟩) hk
    have tp := hd.tp s
    rw [show ((0 : Nat) : Int) = 0 from rfl] at g0
    cases q : wEq (.int s.1) key with
    | true =>
      rw [q] at ge
      exact .inl ⟨s, by rw [List.find?_cons, q], some (.fro (rg s)), by rw [List.map_cons]; unfold sLoop; simp [Rw, g0, ge, tp _ b1.2.2]⟩
    | false =>
      rw [q] at ge
      have step : sLoop (.nm 4) Rw ((s :: rs).map rg) [a0, a1, a2, some (.fro key), x] = sLoop (.nm 4) Rw (rs.map rg) [a0, a1, a2, some (.fro key), some (.fro (rg s))] := by
        rw [List.map_cons]
        conv => lhs; unfold sLoop
        simp [Rw, g0, ge]
      rw [step, List.find?_cons, q]
      exact row_loop a0 a1 a2 key hk rs (some (.fro (rg s))) fun r hr => hb r (List.mem_cons_of_mem _ hr)
theorem e_row {k : Nat} {t : M5.TT} {rs : List RX} (ht : ts[k]? = some t) (hr : ct[k]? = some rs) (key : D) (hk : Wd key) : F_row_of [fT ts, some (.fro HD), fS (sL t.1), some (.fro key)] = .ok (.fro (rowOf rs key)) [fT ts, some (.fro HD), fS (sL t.1), some (.fro key)] := by
  obtain ⟨R, hi, e⟩ := e_rows hT hC hd ht hr
  have ro := hC.g k t rs ht hr
  have gc := (hT.g t (List.mem_of_getElem? ht)).2.l
  have hb : ∀ r ∈ rs, -1000000000 ≤ r.1 ∧ r.1 ≤ 1000000000 ∧ r.2.length ≤ 100 := fun r hr => ⟨(ro.r r hr).b.1, (ro.r r hr).b.2, by have := (ro.r r hr).l; omega⟩
  rcases row_loop hd (fT ts) (some (.fro HD)) (fS (sL t.1)) key hk rs none hb with ⟨r, h1, x', h2⟩ | ⟨h1, x', h2⟩
  · simp only [Rw] at h2
    simp [F_row_of, B_row_of, e, hi, h2, rowOf, h1]
  · simp only [Rw] at h2
    simp [F_row_of, B_row_of, e, hi, h2, rowOf, h1]
end
end GC

namespace GC
open PySem PySem.Spec L2 M3 M4 M5
open PyProof.Rows hiding St
def plD (ts : List M5.TT) (ys : List TY) : D := .tuple [.tuple (ts.map tblD), .tuple (ys.map tieD), .tuple []]
def cellJ (r : RX) (j : Nat) : D := ((PyData.int r.1 :: r.2)[j]?).getD .none
theorem cell_ok {cols : List TC} {r : RX} (h : RowOk cols r) {j : Nat} (hj : j < cols.length) : (PyData.int r.1 :: r.2)[j]? = some (cellJ r j) ∧ Wd (cellJ r j) := by
  have hl := h.l
  have hj2 : j < (PyData.int r.1 :: r.2).length := by rw [List.length_cons]; omega
  have e : (PyData.int r.1 :: r.2)[j]? = some ((PyData.int r.1 :: r.2)[j]) := List.getElem?_eq_getElem hj2
  have ec : cellJ r j = (PyData.int r.1 :: r.2)[j] := by unfold cellJ; rw [e]; rfl
  refine ⟨by rw [e, ec], ?_⟩
  rw [ec]
  rcases List.mem_cons.mp (List.getElem_mem hj2) with z | z
  · rw [z]; exact .inr ⟨_, rfl, h.b.1, h.b.2⟩
  · exact h.w _ z
theorem tb_D {t : M5.TT} (h : Gn t.1 ∧ GoodC t.2) : Tb (tblD t) := ⟨dL t.1, t.2.map colD, rfl, h.1.tx, by rw [List.length_map]; have := h.2.l; omega, fun c hc => by
  obtain ⟨x, hx, rfl⟩ := List.mem_map.mp hc
  exact col_cl (h.2.g x hx)⟩
theorem T_fi {ts : List M5.TT} (hT : GoodT ts) (hl : ts.length ≤ 7) : Fi MM 3731 4 (.tuple (ts.map tblD)) := ts_fi (fun x hx => by
  obtain ⟨t, ht, rfl⟩ := List.mem_map.mp hx
  exact tb_D (hT.g t ht)) (by rw [List.length_map]; exact hl)
theorem ws_asc {z : Str} (h : z ∈ WS ∨ z ∈ WN) : asc z = true ∧ z.length ≤ 8 := by
  have h1 : ∀ z ∈ WS ++ WN, asc z = true ∧ z.length ≤ 8 := by decide +kernel
  exact h1 z (List.mem_append.mpr h)
theorem tie_fi {ts : List M5.TT} (hT : GoodT ts) {y : TY} (h : GoodY ts y) : Fi MM 63 1 (tieD y) := by
  have f : ∀ l, Gn l → Fi MM 8 0 (dL l) := fun l hl => fi_str hl.sh.a hl.sh.l
  have s : ∀ z, (z ∈ WS ∨ z ∈ WN) → Fi MM 8 0 (.str z) := fun z hz => fi_str (ws_asc hz).1 (ws_asc hz).2
  have m : ∀ x ∈ [dL y.n, dL y.t.1, dL y.c.1, dL y.o.1, .str y.g, .str y.u, .str y.w], Fi MM 8 0 x := by
    intro x hx
    simp only [List.mem_cons, List.not_mem_nil, or_false] at hx
    rcases hx with rfl | rfl | rfl | rfl | rfl | rfl | rfl
    · exact f _ h.n
    · exact f _ (hT.g _ h.t).1
    · exact f _ ((hT.g _ h.t).2.g _ h.c).1
    · exact f _ (hT.g _ h.o).1
    · exact s _ (.inl h.g.1)
    · exact s _ (.inl h.u.1)
    · exact s _ (.inr h.w)
  exact (fl_all m).tup
theorem ties_fi {ts : List M5.TT} (hT : GoodT ts) {ys : List TY} (h : ∀ y ∈ ys, GoodY ts y) (hl : ys.length ≤ 11) : Fi MM 704 4 (.tuple (ys.map tieD)) :=
  ((fl_all (xs := ys.map tieD) fun x hx => by
    obtain ⟨y, hy, rfl⟩ := List.mem_map.mp hx
    exact tie_fi hT (h y hy)).tup).mono (Int.le_refl _) (by rw [List.length_map]; omega) (by omega)
theorem nil_fi : Fi MM 0 4 (.tuple []) := ((fl_all (N := MM) (W := 0) (k := 0) (xs := []) fun x hx => by cases hx).tup).mono (Int.le_refl _) (by simp) (by omega)

theorem plan_fi {ts : List M5.TT} (hT : GoodT ts) (hl : ts.length ≤ 7) {ys : List TY} (h : ∀ y ∈ ys, GoodY ts y) (hy : ys.length ≤ 11) : Fi MM 5000 5 (plD ts ys) :=
  (((FL.one (T_fi hT hl)).app ((FL.one (ties_fi hT h hy)).app (FL.one nil_fi))).tup).mono (Int.le_refl _) (by omega) (by omega)
theorem row_fl {cols : List TC} (hc : cols.length ≤ 5) {r : RX} (h : RowOk cols r) : FL MM 315 0 (PyData.int r.1 :: r.2) := by
  have hl := h.l
  have a : ∀ x ∈ (PyData.int r.1 :: r.2), Fi MM 62 0 x := fun x hx => by
    rcases List.mem_cons.mp hx with rfl | hx
    · exact wd_fi (.inr ⟨_, rfl, h.b.1, h.b.2⟩)
    · exact wd_fi (h.w x hx)
  exact (fl_all a).mono (fun _ z => z) (by rw [List.length_cons]; have : (r.2.length + 1) * 63 ≤ 5 * 63 := Nat.mul_le_mul_right _ (by omega); omega) (Nat.le_refl _)
theorem rows_fl {g : RX → D} (hg : g = rowC ∨ g = rowL) {cols : List TC} (hc : cols.length ≤ 5) {rs : List RX} (h : RowsOk cols rs) : FL MM 3160 1 (rs.map g) := by
  have a : ∀ x ∈ rs.map g, Fi MM 315 1 x := fun x hx => by
    obtain ⟨r, hr, rfl⟩ := List.mem_map.mp hx
    rcases hg with rfl | rfl
    · exact (row_fl hc (h.r r hr)).tup
    · exact (row_fl hc (h.r r hr)).lst
  exact (fl_all a).mono (fun _ z => z) (by rw [List.length_map]; have : rs.length * 316 ≤ 10 * 316 := Nat.mul_le_mul_right _ h.l; omega) (Nat.le_refl _)
theorem ct_fl {ts : List M5.TT} (hT : GoodT ts) (hl : ts.length ≤ 6) {ct : List (List RX)} (hC : CtOk ts ct) {g : List RX → D} (hg : ∀ t ∈ ts, ∀ rs, RowsOk t.2 rs → Fi MM 3160 2 (g rs)) : FL MM 18966 2 (ct.map g) := by
  have a : ∀ x ∈ ct.map g, Fi MM 3160 2 x := fun x hx => by
    obtain ⟨rs, hr, rfl⟩ := List.mem_map.mp hx
    obtain ⟨k, hk⟩ := List.getElem?_of_mem hr
    have hkt : k < ts.length := by rw [← hC.l]; exact lt_get hk
    exact hg ts[k] (List.getElem_mem hkt) rs (hC.g k _ rs (List.getElem?_eq_getElem hkt) hk)
  exact (fl_all a).mono (fun _ z => z) (by rw [List.length_map, hC.l]; have : ts.length * 3161 ≤ 6 * 3161 := Nat.mul_le_mul_right _ hl; omega) (Nat.le_refl _)
/-- a content as it may be handed in -/
def Handed (ct : List (List RX)) (HD : D) : Prop := HD = H0 ct ∨ HD = H1 ct ∨ HD = H2 ct
theorem handed_hd {ts : List M5.TT} {ct : List (List RX)} {HD : D} (h : Handed ct HD) : ∃ rg, HdOk ts HD rg ct := by
  rcases h with rfl | rfl | rfl
  · exact ⟨_, hd0 ts ct⟩
  · exact ⟨_, hd1 ts ct⟩
  · exact ⟨_, hd2 ts ct⟩
theorem handed_fi {ts : List M5.TT} (hT : GoodT ts) (hl : ts.length ≤ 6) {ct : List (List RX)} (hC : CtOk ts ct) {HD : D} (h : Handed ct HD) : Fi MM 18966 3 HD := by
  rcases h with rfl | rfl | rfl
  · exact (ct_fl hT hl hC (g := rowsC) fun t ht rs hr => (rows_fl (.inl rfl) (hT.g t ht).2.l hr).lst).lst
  · exact (ct_fl hT hl hC (g := fun rs => .list (rs.map rowL)) fun t ht rs hr => (rows_fl (.inr rfl) (hT.g t ht).2.l hr).lst).lst
  · exact (ct_fl hT hl hC (g := fun rs => .tuple (rs.map rowC)) fun t ht rs hr => (rows_fl (.inl rfl) (hT.g t ht).2.l hr).tup).tup
theorem two_okd {ts : List M5.TT} (hT : GoodT ts) (hl : ts.length ≤ 6) {ys : List TY} (h : ∀ y ∈ ys, GoodY ts y) (hy : ys.length ≤ 11) {ct : List (List RX)} (hC : CtOk ts ct) {HD : D} (hd : Handed ct HD) : Okd (.list [plD ts ys, HD]) :=
  (((FL.one ((plan_fi hT (by omega) h hy))).app (FL.one ((handed_fi hT hl hC hd).mono (Int.le_refl _) (Nat.le_refl _) (by omega)))).lst).okd (by decide) (by omega) (by omega)
end GC

namespace M3
open PySem PySem.Spec L2
open PyProof.Rows hiding St
/-! ### a look: what is owned is seen as frozen, and stays its owner's -/
def froS : Option SV → Option SV
  | some (.own (.lst ds)) => some (.fro (.list ds))
  | some (.own (.nl dss)) => some (.fro (.list (dss.map PyData.list)))
  | some (.own (.tl dss)) => some (.fro (.tuple (dss.map PyData.list)))
  | some (.own (.exc x)) => some (.own (.exc x))
  | some (.own (.st _ _)) => none
  | some (.own (.dct _)) => none
  | some (.fro d) => some (.fro d)
  | some (.raw v) => some (.raw v)
  | some (.scr ns) => some (.scr ns)
  | none => none
def froE (ε : En) : En := ε.map froS
theorem slot_fro {K : PySem.W.Frag} {Hf H : Hp} {S : Addr → Prop} {s : Option (Option V)} (sm : Same Hf H) : ∀ {e : Option (Option SV)}, SlotR K Hf H S s e → SlotR K H H (fun _ => False) s (e.map froS)
  | some (some (.fro d)), ⟨_, v, h1, h2⟩ => ⟨fun _ z => z, v, h1, h2.mono sm⟩
  | some (some (.own (.lst ds))), ⟨p, h1, _, vs, h2, h3⟩ => ⟨fun _ z => z, _, h1, .lst h2 (h3.mono sm)⟩
  | some (some (.own (.nl dss))), ⟨p, h1, qs, _, _, h2, h3⟩ => ⟨fun _ z => z, _, h1, .lst h2 (h3.dq sm fun _ _ => rfl)⟩
  | some (some (.own (.tl dss))), ⟨p, h1, qs, _, _, h2, h3⟩ => ⟨fun _ z => z, _, h1, .tup (SqT.of h2) (h3.dq sm fun _ _ => rfl)⟩
  | some (some (.own (.exc x))), ⟨p, h1, _, cls, d, h2, h3⟩ => ⟨p, h1, fun _ z => z, cls, d, sm _ _ h2, h3.mono sm⟩
  | some (some (.own (.st _ _))), _ => fun _ z => z
  | some (some (.own (.dct _))), _ => fun _ z => z
  | some (some (.raw v)), ⟨_, h1⟩ => ⟨fun _ z => z, h1⟩
  | some (some (.scr ns)), ⟨_, p, h1, h2⟩ => ⟨fun _ z => z, p, h1, sm.seq h2⟩
  | some none, _ => fun _ z => z
  | none, _ => fun _ z => z
theorem EnR.froE {C : Ct} {Hf H : Hp} {w : Own} {σ : L2.St} {ε : En} (E : EnR C Hf H w σ ε) : EnR C H H (fun _ _ => False) σ (M3.froE ε) :=
  ⟨Same.refl _, fun i => by unfold M3.froE; rw [List.getElem?_map]; exact slot_fro E.sub (E.slot i), fun _ _ _ z => z.elim, fun _ _ z => z.elim, by unfold M3.froE; rw [List.length_map]; exact E.len, E.fix⟩
theorem EnR.unlook {C : Ct} {Hf H Hf' H' : Hp} {w wc : Own} {σ : L2.St} {ε : En} {o' : Addr → Prop} (E : EnR C Hf H w σ ε) (st' : Stp H H (O fun _ _ => False) Hf' H' o') : EnR C Hf H' w σ ε ∧ ∀ a, H a ≠ none → H' a = H a := by
  have kp : ∀ a, H a ≠ none → H' a = H a := fun a ha => (st'.rest a ha fun ⟨_, z⟩ => z).1
  have sub : Same Hf H' := fun a o e => by
    have q := E.sub a o e
    rw [kp a (by rw [q]; simp), q]
  exact ⟨⟨sub, fun i => (E.slot i).keep (Same.refl _) fun a hw => kp a (E.there hw), E.sep, E.fre, E.len, E.fix⟩, kp⟩
def mLookB (m : M Bool) : M Bool := fun ε => match m (froE ε) with
  | .ok b _ => .ok b ε
  | _ => .bad
def scal : D → Bool
  | .none => true
  | .bool _ => true
  | .int _ => true
  | .str _ => true
  | _ => false
def mLook (m : M RV) : M RV := fun ε => match m (froE ε) with
  | .ok (.fro d) _ => if scal d = true then .ok (.fro d) ε else .bad
  | _ => .bad
section
variable {C : Ct}
theorem snd_lookB {t : TT} {m : M Bool} (h : Snd C relB t m) : Snd C relB t (mLookB m) := by
  intro Hf H w σ ε Q E P
  unfold mLookB at P
  split at P
  · rename_i b ε' e
    refine h H H _ σ _ Q E.froE ?_
    rw [e]
    intro Hf' H' wc S' v Ec' st' rv
    obtain ⟨E2, kp⟩ := E.unlook (wc := wc) st'
    exact P Hf H' w (fun _ => False) v E2 ⟨Same.refl _, fun a ha na => ⟨kp a ha, rfl, fun z => z.elim na id⟩⟩ ⟨fun _ z => z, rv.2⟩
  · exact P.elim
theorem mt_look {X : Cx} {e : Expr} {t : TT} {m : M Bool} (h : MT X C e t m) : MT X C e t (mLookB m) := ⟨h.pt, snd_lookB h.sn, h.hK⟩
end
@[simp] theorem x_look {m : M RV} {ε : En} : mLook m ε = match m (froE ε) with
  | .ok (.fro d) _ => if scal d = true then .ok (.fro d) ε else .bad
  | _ => .bad := rfl
@[simp] theorem x_lookB {m : M Bool} {ε : En} : mLookB m ε = match m (froE ε) with
  | .ok b _ => .ok b ε
  | _ => .bad := rfl
@[simp] theorem froE_nil : froE [] = [] := rfl
@[simp] theorem froE_cons (s : Option SV) (ε : En) : froE (s :: ε) = froS s :: froE ε := rfl
@[simp] theorem froS_none : froS none = none := rfl
@[simp] theorem froS_fro (d : D) : froS (some (.fro d)) = some (.fro d) := rfl
@[simp] theorem froS_lst (ds : List D) : froS (some (.own (.lst ds))) = some (.fro (.list ds)) := rfl
@[simp] theorem froS_tl (dss : List (List D)) : froS (some (.own (.tl dss))) = some (.fro (.tuple (dss.map PyData.list))) := rfl
@[simp] theorem froS_raw (v : V) : froS (some (.raw v)) = some (.raw v) := rfl
@[simp] theorem froS_scr (ns : List Int) : froS (some (.scr ns)) = some (.scr ns) := rfl
@[simp] theorem scal_bool (b : Bool) : scal (.bool b) = true := rfl
@[simp] theorem scal_int (i : Int) : scal (.int i) = true := rfl
@[simp] theorem scal_str (z : Str) : scal (.str z) = true := rfl
@[simp] theorem scal_none : scal .none = true := rfl
/-! ### a tuple of lists that are owned -/
theorem RVs.less {C : Ct} {Hf H : Hp} {w w1 : Own} {σ : L2.St} (k : ∀ j a, w1 j a → w j a) : ∀ {S : Addr → Prop} {vs : List V} {rs : List RV}, RVs C Hf H w σ S vs rs → RVs C Hf H w1 σ S vs rs
  | _, _, _, .nil h => .nil h
  | _, _, _, .cons (r := .fro d) h1 h2 h3 h4 => .cons h1 (h2.less k) h3 h4
  | _, _, _, .cons (r := .at_ i) h1 h2 h3 h4 => .cons h1 (h2.less k) h3 h4
  | _, _, _, .cons (r := .raw u) h1 h2 h3 h4 => .cons h1 (h2.less k) h3 h4
  | _, _, _, .cons (r := .new o) ⟨p, a1, a2, a3, a4⟩ h2 h3 h4 => .cons ⟨p, a1, a2, a3, fun i a z => a4 i a (k i a z)⟩ (h2.less k) h3 h4
def tlOf : List RV → En → Option (List (List D) × En)
  | [], ε => some ([], ε)
  | .new (.lst ds) :: rs, ε => (match tlOf rs ε with
    | some (dss, ε') => some (ds :: dss, ε')
    | none => none)
  | .at_ i :: rs, ε => (match ε[i]? with
    | some (some (.own (.lst ds))) => (match tlOf rs (ε.set i none) with
      | some (dss, ε') => some (ds :: dss, ε')
      | none => none)
    | _ => none)
  | _, _ => none
theorem tl_ok {C : Ct} {Hf H : Hp} {σ : L2.St} : ∀ {vs : List V} {rs : List RV} {w : Own} {S : Addr → Prop} {ε ε' : En} {dss : List (List D)}, EnR C Hf H w σ ε → RVs C Hf H w σ S vs rs → tlOf rs ε = some (dss, ε') →
    ∃ (qs : List Addr) (w' : Own), vs = qs.map V.ref ∧ EnR C Hf H w' σ ε' ∧ NlR C.K Hf H qs dss ∧ qs.Nodup ∧ (∀ a ∈ qs, S a ∨ O w a) ∧ (∀ a ∈ qs, Hf a = none) ∧ (∀ j a, w' j a → a ∉ qs) ∧ (∀ j a, w' j a → w j a)
  | _, [], w, S, ε, _, _, E, .nil h, e => by
    unfold tlOf at e
    cases e
    exact ⟨[], w, rfl, E, .nil, .nil, fun _ z => (nomatch z), fun _ z => (nomatch z), fun _ _ _ z => (nomatch z), fun _ _ z => z⟩
  | _, .fro d :: rs, w, S, ε, _, _, E, _, e => by unfold tlOf at e; cases e
  | _, .raw d :: rs, w, S, ε, _, _, E, _, e => by unfold tlOf at e; cases e
  | _, .new (.st _ _) :: rs, w, S, ε, _, _, E, _, e => by unfold tlOf at e; cases e
  | _, .new (.dct _) :: rs, w, S, ε, _, _, E, _, e => by unfold tlOf at e; cases e
  | _, .new (.nl _) :: rs, w, S, ε, _, _, E, _, e => by unfold tlOf at e; cases e
  | _, .new (.tl _) :: rs, w, S, ε, _, _, E, _, e => by unfold tlOf at e; cases e
  | _, .new (.exc _) :: rs, w, S, ε, _, _, E, _, e => by unfold tlOf at e; cases e
  | _, .new (.lst ds) :: rs, w, S, ε, _, _, E, .cons (S1 := S1) (S2 := S2) ⟨p, rfl, ⟨s1, us, hH, hd⟩, hf, hw⟩ h2 h3 h4, e => by
    unfold tlOf at e
    split at e
    · rename_i dss' ε1 e1
      cases e
      obtain ⟨qs, w', rfl, E', hn, nd, hs, hfq, out, less⟩ := tl_ok E h2 e1
      have np : p ∉ qs := fun z => by
        rcases hs p z with z | ⟨j, z⟩
        · exact h3 p ((s1 p).mpr rfl) z
        · exact hw j p z ((s1 p).mpr rfl)
      refine ⟨p :: qs, w', rfl, E', .cons hH hd hn, List.nodup_cons.mpr ⟨np, nd⟩, fun a ha => ?_, fun a ha => ?_, fun j a z ha => ?_, less⟩
      · rcases List.mem_cons.mp ha with rfl | ha
        · exact .inl ((h4 a).mpr (.inl ((s1 a).mpr rfl)))
        · exact (hs a ha).imp (fun z => (h4 a).mpr (.inr z)) id
      · rcases List.mem_cons.mp ha with rfl | ha
        · exact hf a ((s1 a).mpr rfl)
        · exact hfq a ha
      · rcases List.mem_cons.mp ha with rfl | ha
        · exact hw j a (less j a z) ((s1 a).mpr rfl)
        · exact out j a z ha
    · cases e
  | _, .at_ i :: rs, w, S, ε, _, _, E, .cons (v := v) (S1 := S1) (S2 := S2) ⟨s1, hv⟩ h2 h3 h4, e => by
    unfold tlOf at e
    split at e
    · rename_i ds e0
      split at e
      · rename_i dss' ε1 e1
        cases e
        obtain ⟨p, us, k1, k2, k3, k4, k5⟩ := E.ownLst e0
        rw [k1] at hv
        cases hv
        have E1 := E.hide k1
        have lw : ∀ j a, wSet w i (fun _ => False) j a → j ≠ i ∧ w j a := fun j a z => by
          rcases z with ⟨_, z⟩ | ⟨n, z⟩
          · exact z.elim
          · exact ⟨n, z⟩
        obtain ⟨qs, w', rfl, E', hn, nd, hs, hfq, out, less⟩ := tl_ok E1 (h2.less fun j a z => (lw j a z).2) e1
        have np : p ∉ qs := fun z => by
          rcases hs p z with z | ⟨j, z⟩
          · exact RVs.out h2 p z ⟨i, (k5 p).mpr rfl⟩
          · exact (lw j p z).1 (E.sep j i p (lw j p z).2 ((k5 p).mpr rfl))
        refine ⟨p :: qs, w', rfl, E', .cons k2 k3 hn, List.nodup_cons.mpr ⟨np, nd⟩, fun a ha => ?_, fun a ha => ?_, fun j a z ha => ?_, fun j a z => (lw j a (less j a z)).2⟩
        · rcases List.mem_cons.mp ha with rfl | ha
          · exact .inr ⟨i, (k5 a).mpr rfl⟩
          · rcases hs a ha with z | ⟨j, z⟩
            · exact .inl ((h4 a).mpr (.inr z))
            · exact .inr ⟨j, (lw j a z).2⟩
        · rcases List.mem_cons.mp ha with rfl | ha
          · exact k4
          · exact hfq a ha
        · rcases List.mem_cons.mp ha with rfl | ha
          · exact (lw j a (less j a z)).1 (E.sep j i a (lw j a (less j a z)).2 ((k5 a).mpr rfl))
          · exact out j a z ha
      · cases e
    · cases e
def mTl (ms : M (List RV)) : M RV := fun ε => (ms ε).bind fun rs ε1 => if rs.length ≤ 100 then (match tlOf rs ε1 with
  | some (dss, ε2) => .ok (.new (.tl dss)) ε2
  | none => .bad) else .bad
theorem snd_tl {C : Ct} {tr : TA} {ms : M (List RV)} (h : Snd C relRVs tr ms) : Snd C relRV (tTup tr) (mTl ms) := by
  intro Hf H w σ ε Q E P
  unfold mTl at P
  refine h Hf H w σ ε _ E ?_
  cases em : ms ε with
  | err x ε1 => rw [em] at P; exact P
  | bad => rw [em] at P; exact P
  | ok rs ε1 =>
    rw [em] at P
    intro Hf1 H1 w1 S vs E1 st rb
    simp only [R.bind] at P
    split at P
    rotate_left
    · exact P.elim
    rename_i hl
    split at P
    rotate_left
    · exact P.elim
    rename_i dss ε2 e2
    have hvl := RVs.len rb
    refine ⟨by rw [sizeLine_eq]; omega, fun p hp => ?_⟩
    obtain ⟨qs, w', rfl, E2, hn, nd, hs, hfq, out, less⟩ := tl_ok E1 rb e2
    have np : p ∉ qs := fun z => hn.there p z hp
    have hfp : Hf1 p = none := same_none E1.sub hp
    refine P Hf1 (upd H1 p (.tup (qs.map V.ref))) w' (fun a => a ∈ p :: qs) (.ref p) (E2.layNew hp) ⟨st.mono, fun a ha na => ?_⟩ ⟨p, rfl, ⟨qs, List.nodup_cons.mpr ⟨np, nd⟩, fun a => Iff.rfl, upd_same, hn.keep (Same.refl _) fun a ha => upd_ne fun z => np (z ▸ ha)⟩, fun a ha => ?_, fun j a z ha => ?_⟩
    · obtain ⟨r1, r2, r3⟩ := st.rest a ha na
      have ne : a ≠ p := fun z => ha (by rw [← r1, z]; exact hp)
      refine ⟨by rw [upd_ne ne]; exact r1, r2, ?_⟩
      rintro (⟨j, z⟩ | z)
      · exact r3 (.inl ⟨j, less j a z⟩)
      · rcases List.mem_cons.mp z with z | z
        · exact ne z
        · exact r3 ((hs a z).symm)
    · rcases List.mem_cons.mp ha with rfl | ha
      · exact hfp
      · exact hfq a ha
    · rcases List.mem_cons.mp ha with rfl | ha
      · exact E2.nw hp j a z rfl
      · exact out j a z ha
theorem me_tl {X : Cx} {C : Ct} {es : List Expr} {k : Nat} {pos : Pos} {tr : TA} {ms : M (List RV)} (h : MRs X C es tr ms) (hK : X.K = C.K := by rfl) : ME X C (.Tuple es k pos) (tTup tr) (mTl ms) := ⟨pe_tup h.pa, snd_tl h.sn, hK⟩
@[simp] theorem x_tl {ms : M (List RV)} {ε : En} : mTl ms ε = (ms ε).bind fun rs ε1 => if rs.length ≤ 100 then (match tlOf rs ε1 with
  | some (dss, ε2) => .ok (.new (.tl dss)) ε2
  | none => .bad) else .bad := rfl
/-- a new tuple of lists is frozen -/
def mTf (m : M RV) : M RV := fun ε => (m ε).bind fun r ε1 => match r with
  | .new (.tl dss) => .ok (.fro (.tuple (dss.map PyData.list))) ε1
  | r => .ok r ε1
theorem snd_tf {C : Ct} {t : TE} {m : M RV} (h : Snd C relRV t m) : Snd C relRV t (mTf m) := by
  intro Hf H w σ ε Q E P
  unfold mTf at P
  refine h Hf H w σ ε _ E ?_
  cases em : m ε with
  | err x ε1 => rw [em] at P; exact P
  | bad => rw [em] at P; exact P
  | ok r ε1 =>
    rw [em] at P
    intro Hf1 H1 w1 S v E1 st rb
    simp only [R.bind] at P
    split at P
    · rename_i dss
      obtain ⟨p, rfl, ⟨qs, nd, hw, hH, hn⟩, hf, hdis⟩ := rb
      classical
      obtain ⟨Hf', hHf⟩ : ∃ Hf' : Hp, ∀ a, Hf' a = if a ∈ p :: qs then H1 a else Hf1 a := ⟨fun a => if a ∈ p :: qs then H1 a else Hf1 a, fun _ => rfl⟩
      have inn : ∀ a ∈ p :: qs, Hf' a = H1 a := fun a ha => by rw [hHf, if_pos ha]
      have out : ∀ a, a ∉ p :: qs → Hf' a = Hf1 a := fun a ha => by rw [hHf, if_neg ha]
      have sm : Same Hf1 Hf' := fun b o q => by
        have : b ∉ p :: qs := fun z => by rw [hf b ((hw b).mpr z)] at q; cases q
        rw [out b this]; exact q
      have sb : Same Hf' H1 := fun b o q => by
        by_cases hb : b ∈ p :: qs
        · rw [inn b hb] at q; exact q
        · rw [out b hb] at q; exact E1.sub b o q
      have dq : Dq C.K Hf' (.ref p) (.tuple (dss.map PyData.list)) := .tup (SqT.of (by rw [inn p List.mem_cons_self]; exact hH)) (hn.dq sm fun a ha => inn a (List.mem_cons_of_mem _ ha))
      refine P Hf' H1 w1 (fun _ => False) _ ⟨sb, fun i => (E1.slot i).keep sm fun _ _ => rfl, E1.sep, fun i a z => ?_, E1.len, E1.fix⟩ ⟨st.mono.trans sm, fun a ha na => ?_⟩ ⟨fun _ z => z, dq⟩
      · rw [out a fun y => hdis i a z ((hw a).mpr y)]
        exact E1.fre i a z
      · obtain ⟨r1, r2, r3⟩ := st.rest a ha na
        have nm : a ∉ p :: qs := fun z => r3 (.inr ((hw a).mpr z))
        exact ⟨r1, (out a nm).trans r2, fun z => z.elim (fun z => r3 (.inl z)) id⟩
    · exact P Hf1 H1 w1 S v E1 st rb
theorem me_tf {X : Cx} {C : Ct} {e : Expr} {t : TE} {m : M RV} (h : ME X C e t m) : ME X C e t (mTf m) := ⟨h.pe, snd_tf h.sn, h.hK⟩
@[simp] theorem x_tf {m : M RV} {ε : En} : mTf m ε = (m ε).bind fun r ε1 => match r with
  | .new (.tl dss) => .ok (.fro (.tuple (dss.map PyData.list))) ε1
  | r => .ok r ε1 := rfl
end M3

namespace M3
open PySem PySem.Spec L2
open PyProof.Rows hiding St
/-! ### for one in found: one.append(z), found a tuple of lists that are owned -/
theorem EnR.ownTl {C : Ct} {Hf H : Hp} {w : Own} {σ : L2.St} {ε : En} {i : Nat} {dss : List (List D)} (E : EnR C Hf H w σ ε) (e : ε[i]? = some (some (.own (.tl dss)))) :
    ∃ p qs, σ[i]? = some (some (.ref p)) ∧ (p :: qs).Nodup ∧ (∀ a, w i a ↔ a ∈ p :: qs) ∧ H p = some (.tup (qs.map V.ref)) ∧ NlR C.K Hf H qs dss ∧ ∀ a ∈ p :: qs, Hf a = none := by
  have q := E.slot i
  rw [e] at q
  obtain ⟨p, h1, qs, h2, h3, h4, h5⟩ := q
  exact ⟨p, qs, h1, h2, h3, h4, h5, fun a ha => E.fre i a ((h3 a).mpr ha)⟩
def sTlApp (i k : Nat) (z : Str) : Sm := fun ε => match ε[i]? with
  | some (some (.own (.tl dss))) => if i ≠ k ∧ k < ε.length ∧ (∀ ds ∈ dss, ds.length < sizeLine) then .nx (((ε.set i none).set k none).set i (some (.own (.tl (dss.map fun ds => ds ++ [.str z]))))) else .bad
  | _ => .bad
def tTlApp (K : PySem.W.Frag) (i k : Nat) (z : Str) : TS := tFor (iAny K (tVar i)) (gName k) (tDrop (tBM K "list" rAppend (tVar k) (tCons (tC (.str z)) tNil)))
theorem snds_tlApp {C : Ct} {i k : Nat} {z : Str} (ho : C.own.contains k = false) : SndS C (tTlApp C.K i k z) (sTlApp i k z) := by
  intro Hf H w σ ε D E P
  unfold sTlApp at P
  split at P
  rotate_left
  · exact P.elim
  rename_i dss e0
  split at P
  rotate_left
  · exact P.elim
  rename_i hc
  obtain ⟨hik, hkl, hsz⟩ := hc
  obtain ⟨p, qs, h1, nd, hw, hH, hn, hf⟩ := E.ownTl e0
  have nd2 := List.nodup_cons.mp nd
  have hks : k < σ.length := by rw [E.len]; exact hkl
  have qw : ∀ q ∈ qs, w i q := fun q hq => (hw q).mpr (List.mem_cons_of_mem _ hq)
  have hql := hn.length
  refine .inr (.inl ⟨.ref p, h1, p, rfl, ⟨_, SqT.of hH⟩, ?_⟩)
  have E1 := E.hide h1
  have E2 := E1.put (i := k) (Hf' := Hf) (H' := H) (S := fun _ => False) hks (Same.refl _) E1.sub (fun _ _ _ _ => rfl) (σ[k]) none (fun _ z => z) (fun _ _ _ _ z => z) (fun j a _ hw => E1.fre j a hw) (fun _ z => z.elim)
    (fun hc => by rw [ho] at hc; cases hc)
  rw [List.set_getElem_self] at E2
  have wk : Walk (Itt C.K p) qs.length (fun H' => SqT C.K H' p (qs.map V.ref)) (YAt (qs.map V.ref)) := by
    have := walk_tup (K := C.K) (a := p) (xs := qs.map V.ref)
    rw [List.length_map] at this
    exact this
  refine for_it wk (fun j σ' H' => ∃ cur w', EnR C Hf H' w' σ' ((ε.set i none).set k none) ∧ (∀ j a, w' j a → w j a ∧ j ≠ i) ∧ σ'[i]? = some (some (.ref p)) ∧ NlR C.K Hf H' qs cur ∧ (∀ m ds, dss[m]? = some ds → cur[m]? = some (if m < j then ds ++ [.str z] else ds)) ∧ ∀ a, a ∉ qs → H' a = H a)
    ⟨dss, _, E2, fun j a z => ?_, h1, hn, fun m ds e => by rw [if_neg (by omega)]; exact e, fun _ _ => rfl⟩ ?_ ?_ ?_
  · rcases z with ⟨_, z⟩ | ⟨n, z⟩
    · exact z.elim
    · rcases z with ⟨_, z⟩ | ⟨n2, z⟩
      · exact z.elim
      · exact ⟨z, n2⟩
  · rintro j σ' H' _ ⟨cur, w', _, _, _, _, _, same⟩
    exact SqT.of (by rw [same p nd2.1]; exact hH)
  · rintro j x σ' H' H'' hj ⟨cur, w', E', lw, hi', hn', hcur, same⟩ ⟨rfl, hx⟩
    have hjd : j < dss.length := by omega
    have hd := List.getElem?_eq_getElem hjd
    have hc := hcur j _ hd
    rw [if_neg (by omega)] at hc
    obtain ⟨q, vs, q1, q2, q3⟩ := hn'.get hc
    rw [List.getElem?_map, q1] at hx
    cases hx
    have mq : q ∈ qs := List.mem_of_getElem? q1
    have hfq := hf q (List.mem_cons_of_mem _ mq)
    have hks' : k < σ'.length := by rw [E'.len, List.length_set, List.length_set]; exact hkl
    refine ⟨.ref q, List.getElem?_set_self hks', .inl ⟨rfl, vs, SqL.of q2⟩, ?_⟩
    have nq : ∀ j a, w' j a → a ≠ q := fun j a y e => (lw j a y).2 (E.sep j i a (lw j a y).1 (by rw [e]; exact qw q mq))
    refine ⟨q, vs, .str z, rfl, rfl, q2, by rw [q3.length]; exact hsz _ (List.mem_of_getElem? hd), ?_⟩
    have E3 := E'.put (i := k) (Hf' := Hf) (H' := upd H'' q (.lst (vs ++ [.str z]))) (S := fun _ => False) hks' (Same.refl _) (fun b o y => by
        have : b ≠ q := fun e => by rw [e, hfq] at y; cases y
        rw [upd_ne this]; exact E'.sub b o y) (fun j a _ y => upd_ne (nq j a y)) (some (.ref q)) none (fun _ z => z) (fun _ _ _ _ z => z) (fun j a _ hw => E'.fre j a hw) (fun _ z => z.elim)
      (fun hc => by rw [ho] at hc; cases hc)
    rw [List.set_set] at E3
    refine ⟨cur.set j (dss[j] ++ [.str z]), _, E3, fun j' a y => ?_, by rw [List.getElem?_set_ne (Ne.symm hik)]; exact hi', hn'.set nd2.2 q1 (q3.append (.cons (.str z) .nil)), fun m ds e => ?_, fun a ha => ?_⟩
    · rcases y with ⟨_, y⟩ | ⟨n, y⟩
      · exact y.elim
      · exact lw j' a y
    · by_cases hm : m = j
      · subst hm
        rw [hd] at e
        cases e
        have : m < cur.length := by
          have := hn'.length
          omega
        rw [List.getElem?_set_self this, if_pos (by omega)]
      · rw [List.getElem?_set_ne (Ne.symm hm), hcur m ds e]
        by_cases h : m < j
        · rw [if_pos h, if_pos (by omega)]
        · rw [if_neg h, if_neg (by omega)]
    · rw [upd_ne fun e => ha (by rw [e]; exact mq)]
      exact same a ha
  · rintro σ' H' ⟨cur, w', E', lw, hi', hn', hcur, same⟩
    have ec : cur = dss.map fun ds => ds ++ [.str z] := by
      refine List.ext_getElem? fun m => ?_
      rw [List.getElem?_map]
      cases e : dss[m]? with
      | some ds =>
        rw [hcur m ds e, if_pos (by have := lt_of_get e; omega)]
        rfl
      | none =>
        have := List.getElem?_eq_none_iff.mp e
        exact List.getElem?_eq_none (by have := hn'.length; omega)
    subst ec
    have hil : i < σ'.length := lt_of_get hi'
    have E3 := E'.put (i := i) (Hf' := Hf) (H' := H') (S := fun a => a ∈ p :: qs) hil (Same.refl _) E'.sub (fun _ _ _ _ => rfl) (some (.ref p)) (some (.own (.tl (dss.map fun ds => ds ++ [.str z])))) ⟨p, rfl, qs, nd, fun _ => Iff.rfl, by rw [same p nd2.1]; exact hH, hn'⟩
      (fun j a _ y ha => (lw j a y).2 (E.sep j i a (lw j a y).1 ((hw a).mpr ha))) (fun j a _ y => E'.fre j a y) (fun a y => hf a y)
      (fun hc u hu => by
        have := E.fix i u hc hu
        rw [h1] at this
        exact Option.some.inj this)
    rw [set_same hi'] at E3
    refine P Hf H' _ σ' E3 ⟨Same.refl _, fun a ha na => ⟨same a fun y => na ⟨i, qw a y⟩, rfl, ?_⟩⟩
    rintro ⟨j, ⟨_, y⟩ | ⟨n, y⟩⟩
    · exact na ⟨i, (hw a).mpr y⟩
    · exact na ⟨j, (lw j a y).1⟩
theorem ms_tlApp {X : Cx} {C : Ct} {x y z : Str} {px py p1 p2 p3 apos cpos pos : Pos} {j : Nat} (i k : Nat) (hp : PassesOwn (model X.prog X.w) X.A X.env X.xe) (nd : X.N.Nodup) (hN : X.N[i]? = some x := by rfl) (hk : X.N[k]? = some y := by rfl)
    (hv : Vis X.env.scope x := by first | exact Or.inl rfl | exact Or.inr (Or.inl rfl) | exact Or.inr (Or.inr rfl)) (hd : (x == ("__debug__" : Str)) = false := by decide) (hcd : (x == ("__classdict__" : Str)) = false := by decide)
    (hv2 : Vis X.env.scope y := by first | exact Or.inl rfl | exact Or.inr (Or.inl rfl) | exact Or.inr (Or.inr rfl)) (hd2 : (y == ("__debug__" : Str)) = false := by decide) (hcd2 : (y == ("__classdict__" : Str)) = false := by decide)
    (hy : Loc X.env.scope y := by first | exact Or.inl rfl | exact Or.inr rfl) (hf : X.fn y = true ∨ X.env.scope.names.lookup y = some .local := by first | exact .inl rfl | exact .inr rfl)
    (hfew : ((backTo cpos (starEach [Expr.Constant (.str z) j p2] X.env)).all (fun x => !x.1) && (backToKw cpos (keywordEach [] X.env)).all (fun x => x.1.isSome)
      && decide ([Expr.Constant (.str z) j p2].length + ([] : List Keyword).length + (if ([] : List Keyword).isEmpty then 0 else 1) < 30)) = true := by rfl)
    (hline : (apos.endLine == cpos.line) = true := by rfl) (hst : starEach [Expr.Constant (.str z) j p2] X.env = (false, eval (Expr.Constant (.str z) j p2) X.env) :: starEach [] X.env := by rfl) (hplain : (backTo cpos (starEach [] X.env)).any (·.1) = false := by rfl)
    (hs : swapsWith (.Call (.Attribute (.Name y p1) "append" apos) [Expr.Constant (.str z) j p2] [] cpos) none p3.line X.env = pure false := by rfl)
    (ho : C.own.contains k = false := by rfl) (hc : X.calm = true := by rfl) (hfs : ∀ v, foldedSetIterable (.Name x px) X.env v = pure v := by intro _; rfl) (hK : X.K = C.K := by rfl) :
    MS X C (.For (.Name y py) (.Name x px) [.Expr (.Call (.Attribute (.Name y p1) "append" apos) [Expr.Constant (.str z) j p2] [] cpos) p3] [] pos) (tTlApp C.K i k z) (sTlApp i k z) := by
  refine ⟨?_, snds_tlApp ho⟩
  have q := pe_bm (apos := apos) (cpos := cpos) PySem.F.plainAttrs_list PySem.F.slot_list_append PySem.F.type_list_append mt_append (pe_var (pos := p1) hk hv2 hd2 hcd2) (pa_cons (pe_str (j := j) (pos := p2)) pa_nil hst) rfl hfew hline hst hplain
  have r := ps_for (pos := pos) hp hc (pi_any (tg := .Name y py) (pe_var (pos := px) hN hv hd hcd) hK) (pg_name (pos := py) nd hk hy hf) (pss_one (ps_expr (pos := p3) q hs)) hfs
  rw [hK] at r
  exact r
@[simp] theorem x_tlApp {i k : Nat} {z : Str} {ε : En} : sTlApp i k z ε = match ε[i]? with
  | some (some (.own (.tl dss))) => if i ≠ k ∧ k < ε.length ∧ (∀ ds ∈ dss, ds.length < sizeLine) then .nx (((ε.set i none).set k none).set i (some (.own (.tl (dss.map fun ds => ds ++ [.str z]))))) else .bad
  | _ => .bad := rfl
end M3

namespace M3
open PySem PySem.Spec L2
open PyProof.Rows hiding St
/-! ### a module's dict of defs: k in T, T[k](..) -/
structure FTab (K : PySem.W.Frag) (w : World) (mg : Str → Option Value) (a : Addr) (tab : List (Str × Str)) : Prop where
  kd : ∃ es n, KDict K w a es n
  get : ∀ z : Str, (tab.lookup z = none ∧ PySem.W.nsIn K a z = some none) ∨ ∃ g f, tab.lookup z = some g ∧ mg g = some (.ref f) ∧ PySem.W.nsIn K a z = some (some (.ref f))
theorem ftab_mk {K : PySem.W.Frag} {w : World} {mg : Str → Option Value} {a : Addr} {es : Array DictEntry} {n : Nat} {tab : List (Str × Str)} (l : K.lookup a = some ⟨.type "dict", none, .dict es n, #[]⟩) (lit : PySem.W.KeysLit w.params es.toList) (low : (a == sysModules) = false)
    (rel : Paired (fun (e : DictEntry) (kv : Str × Str) => (∃ t, e.key = .str kv.1 t) ∧ ∃ f, e.val = .ref f ∧ mg kv.2 = some (.ref f)) es.toList tab) : FTab K w mg a tab := by
  refine ⟨⟨es, n, l, lit, low⟩, fun z => ?_⟩
  have e0 : PySem.W.nsIn K a z = (match es.toList.find? (·.key.isStr z) with
      | some e => some (some e.val)
      | none => if es.toList.any (·.refKey) then none else some none) := by
    unfold PySem.W.nsIn
    rw [l]
    all_goals rfl
  rw [e0]
  have nr : ∀ {xs : List DictEntry} {ys : List (Str × Str)}, Paired (fun (e : DictEntry) (kv : Str × Str) => (∃ t, e.key = .str kv.1 t) ∧ ∃ f, e.val = .ref f ∧ mg kv.2 = some (.ref f)) xs ys → xs.any (·.refKey) = false := by
    intro xs ys h
    induction h with
    | nil => rfl
    | cons q _ ih =>
      obtain ⟨⟨t, e⟩, _⟩ := q
      rw [List.any_cons, ih, Bool.or_false]
      unfold DictEntry.refKey
      rw [e]
  have go : ∀ {xs : List DictEntry} {ys : List (Str × Str)}, Paired (fun (e : DictEntry) (kv : Str × Str) => (∃ t, e.key = .str kv.1 t) ∧ ∃ f, e.val = .ref f ∧ mg kv.2 = some (.ref f)) xs ys →
      (ys.lookup z = none ∧ xs.find? (·.key.isStr z) = none) ∨ ∃ g f e, ys.lookup z = some g ∧ mg g = some (.ref f) ∧ xs.find? (·.key.isStr z) = some e ∧ e.val = .ref f := by
    intro xs ys h
    induction h with
    | nil => exact .inl ⟨rfl, rfl⟩
    | @cons e kv xs ys q _ ih =>
      obtain ⟨⟨t, ek⟩, f, r, m⟩ := q
      have es' : e.key.isStr z = (kv.1 == z) := by rw [ek]; rfl
      obtain ⟨k1, k2⟩ := kv
      rw [List.lookup_cons, List.find?_cons, es']
      cases hq : k1 == z with
      | true =>
        have : (z == k1) = true := by rw [beq_iff_eq] at hq ⊢; exact hq.symm
        rw [this]
        exact .inr ⟨k2, f, e, rfl, m, rfl, r⟩
      | false =>
        have : (z == k1) = false := by
          rw [beq_eq_false_iff_ne] at hq ⊢
          exact Ne.symm hq
        rw [this]
        exact ih
  rcases go rel with ⟨g1, g2⟩ | ⟨g, f, e, g1, g2, g3, g4⟩
  · rw [g2, nr rel]
    exact .inl ⟨g1, rfl⟩
  · rw [g3]
    exact .inr ⟨g, f, g1, g2, by rw [← g4]⟩
def tTabIn (mg : Str → Option Value) (x : Str) (K : PySem.W.Frag) (w : World) (tab : List (Str × Str)) (ty : TE) : TE := fun σ H Q => ∃ a, mg x = some (.ref a) ∧ FTab K w mg a tab ∧ ty σ H fun y H1 => ∃ z, y = .str z ∧ Q (.bl (tab.lookup z).isSome) H1
def mTabIn (tab : List (Str × Str)) (m : M RV) : M RV := fun ε => (m ε).bind fun r ε1 => match view ε1 r with
  | some (.str z) => .ok (.fro (.bool (tab.lookup z).isSome)) ε1
  | _ => .bad
section
variable {X : Cx} {C : Ct} {x : Str} {px ps pos : Pos} {e : Expr} {tab : List (Str × Str)} {ty : TE} {m : M RV}
theorem tab_fun {a : Addr} (T : FTab X.K X.w X.mg a tab) (Q : VK) : (fun (y : V) (H1 : Hp) => ∃ (z : Str) (r : Option Value), y = .str z ∧ V.ref a = .ref a ∧ PySem.W.nsIn X.K a z = some r ∧ Q (.bl r.isSome) H1) = fun y H1 => ∃ z, y = .str z ∧ Q (.bl (tab.lookup z).isSome) H1 := by
  funext y H1
  refine propext ⟨fun ⟨z, r, e1, _, e2, q⟩ => ⟨z, e1, ?_⟩, fun ⟨z, e1, q⟩ => ?_⟩
  · rcases T.get z with ⟨g1, g2⟩ | ⟨g, f, g1, g2, g3⟩
    · rw [g2] at e2; cases e2; rw [g1]; exact q
    · rw [g3] at e2; cases e2; rw [g1]; exact q
  · rcases T.get z with ⟨g1, g2⟩ | ⟨g, f, g1, g2, g3⟩
    · rw [g1] at q; exact ⟨z, none, e1, rfl, g2, q⟩
    · rw [g1] at q; exact ⟨z, some (.ref f), e1, rfl, g3, q⟩
theorem snd_tabIn (hx : ∃ a, X.mg x = some (.ref a) ∧ FTab X.K X.w X.mg a tab) (h : MO X C e ty m) : Snd C relRV (tTabIn X.mg x X.K X.w tab ty) (mTabIn tab m) := by
  intro Hf H w σ ε Q E P
  obtain ⟨a, hm, T⟩ := hx
  refine ⟨a, hm, T, h.sn Hf H w σ ε _ E ?_⟩
  unfold mTabIn at P
  cases em : m ε with
  | err x ε1 => rw [em] at P; exact P
  | bad => rw [em] at P; exact P
  | ok r ε1 =>
    rw [em] at P
    intro Hf1 H1 w1 S b E1 st rb
    have P1 := P.step st.noS
    simp only [R.bind] at P1
    split at P1
    · rename_i z ek
      exact ⟨z, (rb.2.view E1 ek).str, P1.here E1 ⟨fun _ z => z, .bl _⟩⟩
    · exact P1.elim
theorem mt_tabIn (hx : ∃ a, X.mg x = some (.ref a) ∧ FTab X.K X.w X.mg a tab) (h : MO X C e ty m) (hg : Gl X x := by rfl) (hd : (x == ("__debug__" : Str)) = false := by decide)
    (hm : behindInMarks .In (.Name x px) = false := by with_unfolding_all rfl) : MT X C (.Compare e [.In] [.Name x px] pos) (tTest (tTabIn X.mg x X.K X.w tab ty)) (mBl (mTabIn tab m)) := by
  refine ⟨⟨fun pins s σ H Q I z => ?_⟩, snd_bool (snd_tabIn hx h), h.hK⟩
  obtain ⟨a, hm', T, z⟩ := z
  obtain ⟨es, n, kd⟩ := T.kd
  refine (pt_cmpR (pos := pos) (op_in_kd kd) h.pe (pe_glob (pos := px) (v := V.ref a) hg hm' rfl hd) hm).run pins s σ H Q I ?_
  show ty σ H _
  have e1 := tab_fun T fun x H' => ∃ k, x = V.bl k ∧ Q k H'
  dsimp only at e1 ⊢
  rw [← e1] at z
  exact z
end
inductive CalT (P : Program) (w : World) (K : PySem.W.Frag) (mg : Str → Option Value) (base : Heap) (CX : CXT) (k n : Nat) : List (Str × Str) → List (Str × M RV) → Prop
  | nil : CalT P w K mg base CX k n [] []
  | cons {z g : Str} {F : M RV} {tab : List (Str × Str)} {fs : List (Str × M RV)} : Cal P w K mg base CX k g n [] F → CalT P w K mg base CX k n tab fs → CalT P w K mg base CX k n ((z, g) :: tab) ((z, F) :: fs)
theorem CalT.get {P : Program} {w : World} {K : PySem.W.Frag} {mg : Str → Option Value} {base : Heap} {CX : CXT} {k n : Nat} {z : Str} : ∀ {tab : List (Str × Str)} {fs : List (Str × M RV)} {F : M RV}, CalT P w K mg base CX k n tab fs → fs.lookup z = some F → ∃ g, tab.lookup z = some g ∧ Cal P w K mg base CX k g n [] F
  | _, _, F, .nil, e => by cases e
  | _, _, F, .cons (z := y) (g := g) c cs, e => by
    rw [List.lookup_cons] at e ⊢
    cases hq : z == y with
    | true => rw [hq] at e; cases e; exact ⟨g, rfl, c⟩
    | false => rw [hq] at e; exact cs.get e
theorem wpAny_Call_Sub {M : Model} {A : Around} {E : Value → Shared → Prop} {s : Shared} {env : Env} {a b : Expr} {p pos : Pos} {args : List Expr} {keywords : List Keyword} {Q : Value → Shared → Prop}
    (h : wpAny M A (eval (.Subscript a b p) env) (fun f s₁ => wpAny M A (callWith pos f [] (backTo pos (starEach args env)) (backToKw pos (keywordEach keywords env))) Q E s₁) E s) :
    wpAny M A (eval (.Call (.Subscript a b p) args keywords pos) env) Q E s := by
  have e : eval (.Call (.Subscript a b p) args keywords pos) env = (do
    callWith pos (← eval (.Subscript a b p) env) [] (backTo pos (starEach args env)) (backToKw pos (keywordEach keywords env))) := rfl
  rw [e]
  exact wpAny_bind h
def mCallT (n : Nat) (fs : List (Str × M RV)) (mk : M RV) (ms : M (List RV)) : M RV := fun ε => (mk ε).bind fun r ε1 => match view ε1 r with
  | some (.str z) => (match fs.lookup z with
    | some F => mCall n F ms ε1
    | none => .bad)
  | _ => .bad
def rTab (K : PySem.W.Frag) (a : Addr) : R2 := fun x y H Q => x = .ref a ∧ ∃ z f, y = .str z ∧ PySem.W.nsIn K a z = some (some (.ref f)) ∧ Q (.ref f) H
def tCallT (X : Cx) (CX : CXT) (W : WX) (k n : Nat) (x : Str) (tab : List (Str × Str)) (tk : TE) (tr : TA) : TE := fun σ H Q => ∃ a, X.mg x = some (.ref a) ∧ FTab X.K X.w X.mg a tab ∧ tk σ H fun y H1 => rTab X.K a (.ref a) y H1 fun u H2 =>
  ∃ (f : Addr) (g : Str) (F : M RV), u = .ref f ∧ X.mg g = some (.ref f) ∧ Cal X.prog X.w X.K X.mg X.base CX k g n [] F ∧ tCallG (spM X.K n F) [] (WE W) tr σ H2 Q
section
variable {X : Cx} {C : Ct} {CX : CXT} {k n : Nat} {x : Str} {px ps pos : Pos} {ek e : Expr} {es : List Expr} {tab : List (Str × Str)} {fs : List (Str × M RV)} {tk : TE} {mk : M RV} {tr : TA} {ms : M (List RV)}
theorem ix_tab {a : Addr} (T : FTab X.K X.w X.mg a tab) : IxR X (rTab X.K a) := by
  obtain ⟨es, n, kd⟩ := T.kd
  intro value slice pins s σ H x y v u Q I rx ry h hs
  obtain ⟨rfl, z, f, rfl, g2, q⟩ := h
  exact ix_kdict value slice pins s σ H _ _ v u Q I rx ry ⟨a, z, .ref f, rfl, rfl, ⟨es, n, .ref f, kd.at_, kd.lit, g2, rfl⟩, q⟩ hs
theorem pe_callT (hr : Room k X.A) (hgd : X.A.guards = some []) (hx : PassW CX X C.W) (hk : PE X ek tk) (ha : PA X (e :: es) tr) (hg : Gl X x) (hdb : (x == ("__debug__" : Str)) = false) (hp : PlainIx ek)
    (he : starEach (e :: es) X.env = (false, eval e X.env) :: starEach es X.env) (hpl : (backTo pos (starEach es X.env)).any (·.1) = false) :
    PE X (.Call (.Subscript (.Name x px) ek ps) (e :: es) [] pos) (tCallT X CX C.W k n x tab tk tr) := by
  refine ⟨fun pins s σ H Q I h => ?_⟩
  obtain ⟨a, hm, T, h⟩ := h
  refine wpAny_Call_Sub ?_
  have q := (pe_ix (pos := ps) (ix_tab T) (pe_glob (pos := px) (v := V.ref a) hg hm rfl hdb) hk hp).run pins s σ H _ I h
  refine thn q fun v s1 ⟨u, H1, I1, ru, f, g, F, eu, mf, c, h1⟩ => ?_
  subst eu
  obtain rfl : v = Value.ref f := ru
  obtain ⟨f', fd, ps', ds, h1', h2, h3, h4, h5⟩ := c.ex
  rw [mf] at h1'
  cases h1'
  refine PySem.W.callWith_K (h₀ := X.base) I1.ok.mod.kin h2 (thn (ha.run pos pins s1 σ H1 _ I1 h1) fun us s2 ⟨vs, H2, I2, r, q2⟩ => ⟨I2.kIn, ?_⟩) he hpl
  exact run_fnG h5 hr hgd h4 h3 (hx σ) I2 r q2
theorem me_callT (ht : ∃ a, X.mg x = some (.ref a) ∧ FTab X.K X.w X.mg a tab) (cs : CalT X.prog X.w X.K X.mg X.base CX k n tab fs) (hr : Room k X.A) (hgd : X.A.guards = some []) (hx : PassW CX X C.W) (hk : MO X C ek tk mk) (ha : MAs X C (e :: es) tr ms) (hg : Gl X x := by rfl) (hdb : (x == ("__debug__" : Str)) = false := by decide)
    (hp : PlainIx ek := by exact fun _ _ => rfl) (he : starEach (e :: es) X.env = (false, eval e X.env) :: starEach es X.env := by rfl) (hpl : (backTo pos (starEach es X.env)).any (·.1) = false := by rfl) :
    ME X C (.Call (.Subscript (.Name x px) ek ps) (e :: es) [] pos) (tCallT X CX C.W k n x tab tk tr) (mCallT n fs mk ms) := by
  refine ⟨pe_callT hr hgd hx hk.pe ha.pa hg hdb hp he hpl, fun Hf H w σ ε Q E P => ?_, hk.hK⟩
  obtain ⟨a, hm, T⟩ := ht
  refine ⟨a, hm, T, hk.sn Hf H w σ ε _ E ?_⟩
  unfold mCallT at P
  cases em : mk ε with
  | err x ε1 => rw [em] at P; exact P
  | bad => rw [em] at P; exact P
  | ok r ε1 =>
    rw [em] at P
    intro Hf1 H1 w1 S b E1 st rb
    have P1 := P.step st.noS
    simp only [R.bind] at P1
    split at P1
    · rename_i z ev
      split at P1
      · rename_i F eF
        obtain ⟨g, eg, c⟩ := cs.get eF
        rcases T.get z with ⟨g1, g2⟩ | ⟨g0, f, g1, g2, g3⟩
        · rw [eg] at g1; cases g1
        · rw [eg] at g1
          cases g1
          refine ⟨rfl, z, f, (rb.2.view E1 ev).str, g3, f, g, F, rfl, g2, c, ?_⟩
          rw [hk.hK]
          have q := snd_call (n := n) (F := F) (C := C) (E := WE C.W) (fun _ _ _ _ z => z) ha.sn
          have e : (fun (σ : L2.St) (H : Hp) (Q : VK) => tr σ H fun vs H1 => spM C.K n F vs H1 Q (WE C.W σ)) = tCallG (spM C.K n F) [] (WE C.W) tr := by
            funext σ H Q; unfold tCallG; simp only [List.append_nil]
          rw [e] at q
          exact q Hf1 H1 w1 σ ε1 Q E1 P1
      · exact P1.elim
    · exact P1.elim
end
@[simp] theorem x_callT {n : Nat} {fs : List (Str × M RV)} {mk : M RV} {ms : M (List RV)} {ε : En} : mCallT n fs mk ms ε = (mk ε).bind fun r ε1 => match view ε1 r with
  | some (.str z) => (match fs.lookup z with
    | some F => mCall n F ms ε1
    | none => .bad)
  | _ => .bad := rfl
@[simp] theorem x_tabIn {tab : List (Str × Str)} {m : M RV} {ε : En} : mTabIn tab m ε = (m ε).bind fun r ε1 => match view ε1 r with
  | some (.str z) => .ok (.fro (.bool (tab.lookup z).isSome)) ε1
  | _ => .bad := rfl
end M3

namespace M3
open PySem PySem.Spec L2
open PyProof.Rows hiding St
/-! ### index of a truth -/
def ixB (b : Bool) : List Bool → Option Nat
  | [] => none
  | c :: bs => if c = b then some 0 else (ixB b bs).map (· + 1)
def blsV : List D → Option (List Bool)
  | [] => some []
  | .bool b :: ds => (match blsV ds with
    | some bs => some (b :: bs)
    | none => none)
  | _ :: _ => none
def gIndexB : D → List D → Option Out
  | .list ds, [.bool b] => (match blsV ds with
    | some bs => (ixB b bs).map fun j => .val (.int (j : Int))
    | none => none)
  | _, _ => none
theorem blsV_vs {K : PySem.W.Frag} {H : Hp} : ∀ {vs : List V} {ds : List D} {bs : List Bool}, DqAll K H vs ds → blsV ds = some bs → vs = bs.map V.bl
  | _, _, _, .nil, e => by unfold blsV at e; cases e; rfl
  | _, _, _, .cons (d := .bool b) (.bl _) q, e => by
    unfold blsV at e
    split at e
    · rename_i bs e1
      cases e
      rw [blsV_vs q e1]; rfl
    · cases e
  | _, _, _, .cons (d := .none) a q, e => by unfold blsV at e; cases e
  | _, _, _, .cons (d := .int _) a q, e => by unfold blsV at e; cases e
  | _, _, _, .cons (d := .str _) a q, e => by unfold blsV at e; cases e
  | _, _, _, .cons (d := .list _) a q, e => by unfold blsV at e; cases e
  | _, _, _, .cons (d := .tuple _) a q, e => by unfold blsV at e; cases e
theorem eqV_b (a b : Bool) : eqV (.bl a) (.bl b) = decide (a = b) := by cases a <;> cases b <;> rfl
theorem ixB_some {k : Bool} : ∀ {ks : List Bool} {j : Nat}, ixB k ks = some j → ks[j]? = some k ∧ ∀ (m : Nat) (z : Bool), m < j → ks[m]? = some z → z ≠ k
  | [], j, e => by cases e
  | i :: ks, j, e => by
    unfold ixB at e
    by_cases q : i = k
    · rw [if_pos q] at e
      cases e
      exact ⟨by rw [q]; rfl, fun m z h => absurd h (Nat.not_lt_zero m)⟩
    · rw [if_neg q] at e
      cases r : ixB k ks with
      | none => rw [r] at e; cases e
      | some l =>
        rw [r] at e
        cases e
        obtain ⟨h1, h2⟩ := ixB_some r
        exact ⟨h1, fun m z hm hz => by
          cases m with
          | zero => cases hz; exact q
          | succ m => exact h2 m z (Nat.lt_of_succ_lt_succ hm) hz⟩
theorem mts_indexB {C : Ct} : MtS C (rIndex C.K) gIndexB := by
  intro Hf H x xs d ds Q sm h1 h2 P
  unfold gIndexB at P
  split at P
  · rename_i es b
    split at P
    · rename_i ks e1
      obtain ⟨p, vs, rfl, q1, q2⟩ := h1
      have ev := blsV_vs q2 e1
      subst ev
      have dq := VwAll.dq sm h2
      have ex := blsV_vs dq (bs := [b]) rfl
      subst ex
      cases r : ixB b ks with
      | none => rw [r] at P; exact P.elim
      | some j =>
        rw [r] at P
        obtain ⟨g1, g2⟩ := ixB_some r
        refine ⟨p, ks.map V.bl, .bl b, j, .bl b, rfl, rfl, .of q1, rfl, ?_, by rw [List.getElem?_map, g1]; rfl, by rw [eqV_b]; exact decide_eq_true rfl, fun m z hm hz => ?_, P _ (.int _)⟩
        · rw [List.all_map]
          exact List.all_eq_true.mpr fun k _ => rfl
        · rw [List.getElem?_map] at hz
          cases e : ks[m]? with
          | none => rw [e] at hz; cases hz
          | some z' =>
            rw [e] at hz
            cases hz
            rw [eqV_b]
            exact decide_eq_false (g2 m z' hm e)
    · exact P.elim
  · exact P.elim
theorem me_indexB {X : Cx} {C : Ct} {o e : Expr} {to te : TE} {m m2 : M RV} {apos cpos : Pos} (ho : MO X C o to m) (ha : MAs X C [e] (tCons te tNil) (msCons m2 msNil))
    (hbase : attributeBase o "index" X.env (eval o X.env) = eval o X.env := by rfl)
    (hfew : ((backTo cpos (starEach (e :: []) X.env)).all (fun x => !x.1) && (backToKw cpos (keywordEach [] X.env)).all (fun x => x.1.isSome)
      && decide ((e :: ([] : List Expr)).length + ([] : List Keyword).length + (if ([] : List Keyword).isEmpty then 0 else 1) < 30)) = true := by rfl)
    (hline : (apos.endLine == cpos.line) = true := by rfl) (hst : starEach (e :: []) X.env = (false, eval e X.env) :: starEach [] X.env := by rfl) (hplain : (backTo cpos (starEach [] X.env)).any (·.1) = false := by rfl) :
    ME X C (.Call (.Attribute o "index" apos) [e] [] cpos) (tBM C.K "list" (rIndex C.K) to (tCons te tNil)) (mBML gIndexB m (msCons m2 msNil)) := ⟨by
      have q := pe_bm (apos := apos) (cpos := cpos) (r := rIndex X.K) PySem.F.plainAttrs_list PySem.F.slot_list_index PySem.F.type_list_index mt_index ho.pe ha.pa hbase hfew hline hst hplain
      rw [ho.hK] at q
      exact q, snd_bml mts_indexB ho.sn ha.sn, ho.hK⟩
/-! ### y = [.. for .. in x], x a list that stays its owner's -/
section
variable {X : Cx} {C : Ct} {pos : Pos}
theorem ms_setLcO (k : Nat) {y : Str} {py pos' : Pos} {x : Str} {px : Pos} {elt tg : Expr} {ifs : List Expr} {scope : Scope} {own : List (Str × Nat)} {g : TG} {tt : TT} {te : TE} {p : Pat} {c1 : M Bool} {mm : M D} (vs : List Nat) (i : Nat) (ok : BlkOk X.N X.env.scope scope own) (hN : X.N.Nodup)
    (hv : ∀ i, vs.contains i = true → C.own.contains i = false)
    (hg : ∀ (s : Shared) (H : Hp) (A : Addr) (cl : List (Str × Addr)) (fp : List Addr), MG (X.blk s H scope (compEnvC scope cl A X.env) fp) ⟨C.K, C.own, C.vs, noW⟩ vs tg g p)
    (ht : ∀ (s : Shared) (H : Hp) (A : Addr) (cl : List (Str × Addr)) (fp : List Addr), PTs (X.blk s H scope (compEnvC scope cl A X.env) fp) ifs tt ∧ Snd ⟨C.K, C.own, C.vs, noW⟩ relB tt c1)
    (he : ∀ (s : Shared) (H : Hp) (A : Addr) (cl : List (Str × Addr)) (fp : List Addr), MD (X.blk s H scope (compEnvC scope cl A X.env) fp) ⟨C.K, C.own, C.vs, noW⟩ elt te mm)
    (hx : X.N[i]? = some x := by rfl) (hvis : Vis X.env.scope x := by first | exact Or.inl rfl | exact Or.inr (Or.inl rfl) | exact Or.inr (Or.inr rfl)) (hd : (x == ("__debug__" : Str)) = false := by decide)
    (hcd : (x == ("__classdict__" : Str)) = false := by decide) (hK : X.K = C.K := by rfl)
    (hy : X.N[k]? = some y := by rfl) (hyl : X.env.scope.names.lookup y = some .local := by rfl) (hsw : swapsWith (.ListComp elt [⟨tg, .Name x px, ifs, 0⟩] scope pos') (some (.Name y py)) pos.line X.env = pure true := by exact sw_true rfl rfl rfl rfl)
    (hvs : own.map (·.2) = vs := by rfl) (hin : vs.contains i = false := by rfl) (hc : X.calm = true := by rfl) (hs : ∀ y, foldedSetIterable (.Name x px) X.env y = pure y := by intro _; rfl) (ho : C.own.contains k = false := by rfl) :
    MS X C (.Assign [.Name y py] (.ListComp elt [⟨tg, .Name x px, ifs, 0⟩] scope pos') pos) (tAsg (tLc (iList C.K (tVar i)) g tt te vs) (gName k)) (sSet k (mLcO i p vs c1 mm)) := by
  obtain ⟨gs, _⟩ : PatS ⟨C.K, C.own, C.vs, noW⟩ g vs p ∧ True := ⟨(hg X.s_0 X.H_0 0 [] []).sn, trivial⟩
  refine ⟨?_, snds_set ho (snd_lcO (C' := ⟨C.K, C.own, C.vs, noW⟩) hin hv rfl rfl rfl gs (ht X.s_0 X.H_0 0 [] []).2 (he X.s_0 X.H_0 0 [] []).sn)⟩
  have q := ps_setLc (py := py) (spos := pos) (pos := pos') hc hN hy hyl hsw (pi_list (pe_var (pos := px) hx hvis hd hcd)) ok (fun s H A cl fp => (hg s H A cl fp).pg) (fun s H A cl fp => (ht s H A cl fp).1) (fun s H A cl fp => (he s H A cl fp).pe) hs
  rw [hvs, hK] at q
  exact q
end
end M3

namespace GA
open M3
abbrev B_table_place : Sm := GC.B_table_place
abbrev F_table_place : M RV := GC.F_table_place
abbrev B_columns_of : Sm := GC.B_columns_of
abbrev F_columns_of : M RV := GC.F_columns_of
abbrev B_column_place : Sm := GC.B_column_place
abbrev F_column_place : M RV := GC.F_column_place
abbrev B_rows_of : Sm := GC.B_rows_of
abbrev F_rows_of : M RV := GC.F_rows_of
abbrev B_row_of : Sm := GC.B_row_of
abbrev F_row_of : M RV := GC.F_row_of
end GA

namespace GA
open PySem PySem.Spec L2 M3 M4 M5
open PyProof.Rows hiding St
/-! ### what the module's names are -/
def topS (i : Nat) : Stmt := PySem.Challenge.pw_tiedtables_k07_what_deeds_do_by_themselv.main.body.getD i (.Pass ⟨0, 0, 0, 0⟩)
structure Mo (K : PySem.W.Frag) (w : World) (mg : Str → Option Value) : Prop where
  b_ValueError : mg "ValueError" = none
  b_all : mg "all" = none
  b_bool : mg "bool" = none
  b_divmod : mg "divmod" = none
  b_enumerate : mg "enumerate" = none
  b_int : mg "int" = none
  b_isinstance : mg "isinstance" = none
  b_len : mg "len" = none
  b_list : mg "list" = none
  b_min : mg "min" = none
  b_range : mg "range" = none
  b_repr : mg "repr" = none
  b_str : mg "str" = none
  b_tuple : mg "tuple" = none
  b_zip : mg "zip" = none
  tb_COLUMN_PARTS : ∃ a, mg "COLUMN_PARTS" = some (.ref a) ∧ FTab K w mg a [("sweep", "sweep_part"), ("shift", "shift_part")]
  tb_ROW_PARTS : ∃ a, mg "ROW_PARTS" = some (.ref a) ∧ FTab K w mg a [("put", "put_part"), ("drop", "drop_part")]
  h_TableError : ∃ T : Addr, mg "TableError" = some (.ref T) ∧ ExcT K ["Taken", "NoRow"] ["NoSuch"] (.ref T)
  kt_0 : KitT K ["Taken", "NoRow"] ["Taken", "NoRow", "NoSuch"] (.type "ValueError")
  kt_1 : ∃ T_Barred : Addr, ∃ T_NoSuch : Addr, mg "Barred" = some (.ref T_Barred) ∧ mg "NoSuch" = some (.ref T_NoSuch) ∧ KitTs K ["NoSuch"] ["Taken", "NoRow", "NoSuch"] [.ref T_Barred, .ref T_NoSuch]
  kt_2 : ∃ T_Taken : Addr, mg "Taken" = some (.ref T_Taken) ∧ KitT K ["Taken"] ["Taken", "NoRow", "NoSuch"] (.ref T_Taken)
  kt_3 : ∃ T_NoRow : Addr, mg "NoRow" = some (.ref T_NoRow) ∧ KitT K ["NoRow"] ["Taken", "NoRow", "NoSuch"] (.ref T_NoRow)
  xf_key : XclF K ["Taken", "NoRow"] "key"
  xf_table : XclF K ["Taken", "NoRow"] "table"

/-! ### table_place -/
abbrev st_table_place : Stmt := topS 7
abbrev N_table_place : List Str := ["tables", "table", "place", "name", "columns"]
theorem sc_table_place : FnScope N_table_place ["tables", "table"] (defScope st_table_place) := ⟨rfl, rfl, rfl, by decide +kernel, rfl, by decide +kernel, by decide +kernel⟩
theorem ok_table_place {P : Program} {w : World} {K : PySem.W.Frag} {mg : Str → Option Value} {base : Heap} {k : Nat} {fa : Addr} {fd : FuncData} (m : Mo K w mg) (D : Dfn K "table_place" st_table_place ["tables", "table"] [] fa fd)  (r_NoSuch : Rse P w K mg base (L2.CX P w) "NoSuch" ["what", "name"]) (hk2 : 2 ≤ k) : FnG P w K mg base (L2.CX P w) (k + 1) fa fd ["tables", "table"] (spM K 2 F_table_place) :=
  dfn_ok (N := N_table_place) (own := [0, 1]) (body := B_table_place) D sc_table_place fun cdv A outer s H vs E hr hg => by
  have tk : Takes (cxOf (L2.CX P w) P w K mg base N_table_place "table_place" (defScope st_table_place) fa cdv A outer s H E) (fun c d _ H' => E c d H') := tk_cx
  have px := passX tk
  have q : MSs (cxOf (L2.CX P w) P w K mg base N_table_place "table_place" (defScope st_table_place) fa cdv A outer s H E) ⟨K, [0, 1], vs, fun c d _ H' => E c d H'⟩ (defBody st_table_place) _ (B_table_place) := (mss_cons (ms_for [2, 3, 4] (passes_of rfl) (mi_enum m.b_enumerate (mds_cons ((me_var 0)).frz mds_nil)) (mg_tp (mgs_cons (mg_nm 2 sc_table_place.nd) (mgs_cons (mg_tp (mgs_cons (mg_nm 3 sc_table_place.nd) (mgs_cons (mg_nm 4 sc_table_place.nd) mgs_nil))) mgs_nil))) (mss_one (ms_if (mt_cmp (g := gEq) (op_eqK rfl hr) ops_eq ((me_var 3)).opd ((me_var 1)).opd) (mss_one (ms_ret (me_var 2))) mss_nil)))
    (mss_one (ms_raise r_NoSuch (hr.mono hk2) tk (mds_cons (me_str).frz (mds_cons ((me_var 1)).frz mds_nil)))))
  exact ⟨_, q.ps, q.sn⟩

/-! ### columns_of -/
abbrev st_columns_of : Stmt := topS 8
abbrev N_columns_of : List Str := ["tables", "table"]
theorem sc_columns_of : FnScope N_columns_of ["tables", "table"] (defScope st_columns_of) := ⟨rfl, rfl, rfl, by decide +kernel, rfl, by decide +kernel, by decide +kernel⟩
theorem ok_columns_of {P : Program} {w : World} {K : PySem.W.Frag} {mg : Str → Option Value} {base : Heap} {k : Nat} {fa : Addr} {fd : FuncData} (m : Mo K w mg) (D : Dfn K "columns_of" st_columns_of ["tables", "table"] [] fa fd) (c_table_place : Cal P w K mg base (L2.CX P w) k "table_place" 2 [] F_table_place) : FnG P w K mg base (L2.CX P w) (k + 1) fa fd ["tables", "table"] (spM K 2 F_columns_of) :=
  dfn_ok (N := N_columns_of) (own := [0, 1]) (body := B_columns_of) D sc_columns_of fun cdv A outer s H vs E hr hg => by
  have tk : Takes (cxOf (L2.CX P w) P w K mg base N_columns_of "columns_of" (defScope st_columns_of) fa cdv A outer s H E) (fun c d _ H' => E c d H') := tk_cx
  have px := passX tk
  have q : MSs (cxOf (L2.CX P w) P w K mg base N_columns_of "columns_of" (defScope st_columns_of) fa cdv A outer s H E) ⟨K, [0, 1], vs, fun c d _ H' => E c d H'⟩ (defBody st_columns_of) _ (B_columns_of) := (mss_one (ms_ret (me_ix (op_ixK rfl) ops_ix ((me_ix (op_ixK rfl) ops_ix ((me_var 0)).opd ((me_call c_table_place hr hg px (mas_cons ((me_var 0)).opd (mas_cons ((me_var 1)).opd mas_nil)))).opd)).opd (me_int).opd)))
  exact ⟨_, q.ps, q.sn⟩

/-! ### column_place -/
abbrev st_column_place : Stmt := topS 9
abbrev N_column_place : List Str := ["tables", "table", "column", "place", "name", "fallback"]
theorem sc_column_place : FnScope N_column_place ["tables", "table", "column"] (defScope st_column_place) := ⟨rfl, rfl, rfl, by decide +kernel, rfl, by decide +kernel, by decide +kernel⟩
theorem ok_column_place {P : Program} {w : World} {K : PySem.W.Frag} {mg : Str → Option Value} {base : Heap} {k : Nat} {fa : Addr} {fd : FuncData} (m : Mo K w mg) (D : Dfn K "column_place" st_column_place ["tables", "table", "column"] [] fa fd) (c_columns_of : Cal P w K mg base (L2.CX P w) k "columns_of" 2 [] F_columns_of) (r_NoSuch : Rse P w K mg base (L2.CX P w) "NoSuch" ["what", "name"]) (hk2 : 2 ≤ k) : FnG P w K mg base (L2.CX P w) (k + 1) fa fd ["tables", "table", "column"] (spM K 3 F_column_place) :=
  dfn_ok (N := N_column_place) (own := [0, 1, 2]) (body := B_column_place) D sc_column_place fun cdv A outer s H vs E hr hg => by
  have tk : Takes (cxOf (L2.CX P w) P w K mg base N_column_place "column_place" (defScope st_column_place) fa cdv A outer s H E) (fun c d _ H' => E c d H') := tk_cx
  have px := passX tk
  have q : MSs (cxOf (L2.CX P w) P w K mg base N_column_place "column_place" (defScope st_column_place) fa cdv A outer s H E) ⟨K, [0, 1, 2], vs, fun c d _ H' => E c d H'⟩ (defBody st_column_place) _ (B_column_place) := (mss_cons (ms_for [3, 4, 5] (passes_of rfl) (mi_enum m.b_enumerate (mds_cons ((me_call c_columns_of hr hg px (mas_cons ((me_var 0)).opd (mas_cons ((me_var 1)).opd mas_nil)))).frz mds_nil)) (mg_tp (mgs_cons (mg_nm 3 sc_column_place.nd) (mgs_cons (mg_tp (mgs_cons (mg_nm 4 sc_column_place.nd) (mgs_cons (mg_nm 5 sc_column_place.nd) mgs_nil))) mgs_nil))) (mss_one (ms_if (mt_cmp (g := gEq) (op_eqK rfl hr) ops_eq ((me_var 4)).opd ((me_var 2)).opd) (mss_one (ms_ret (me_var 3))) mss_nil)))
    (mss_one (ms_raise r_NoSuch (hr.mono hk2) tk (mds_cons (me_str).frz (mds_cons ((me_var 2)).frz mds_nil)))))
  exact ⟨_, q.ps, q.sn⟩

/-! ### rows_of -/
abbrev st_rows_of : Stmt := topS 11
abbrev N_rows_of : List Str := ["tables", "content", "table"]
theorem sc_rows_of : FnScope N_rows_of ["tables", "content", "table"] (defScope st_rows_of) := ⟨rfl, rfl, rfl, by decide +kernel, rfl, by decide +kernel, by decide +kernel⟩
theorem ok_rows_of {P : Program} {w : World} {K : PySem.W.Frag} {mg : Str → Option Value} {base : Heap} {k : Nat} {fa : Addr} {fd : FuncData} (m : Mo K w mg) (D : Dfn K "rows_of" st_rows_of ["tables", "content", "table"] [] fa fd) (c_table_place : Cal P w K mg base (L2.CX P w) k "table_place" 2 [] F_table_place) : FnG P w K mg base (L2.CX P w) (k + 1) fa fd ["tables", "content", "table"] (spM K 3 F_rows_of) :=
  dfn_ok (N := N_rows_of) (own := [0, 1, 2]) (body := B_rows_of) D sc_rows_of fun cdv A outer s H vs E hr hg => by
  have tk : Takes (cxOf (L2.CX P w) P w K mg base N_rows_of "rows_of" (defScope st_rows_of) fa cdv A outer s H E) (fun c d _ H' => E c d H') := tk_cx
  have px := passX tk
  have q : MSs (cxOf (L2.CX P w) P w K mg base N_rows_of "rows_of" (defScope st_rows_of) fa cdv A outer s H E) ⟨K, [0, 1, 2], vs, fun c d _ H' => E c d H'⟩ (defBody st_rows_of) _ (B_rows_of) := (mss_one (ms_ret (me_ix (op_ixK rfl) ops_ix ((me_var 1)).opd ((me_call c_table_place hr hg px (mas_cons ((me_var 0)).opd (mas_cons ((me_var 2)).opd mas_nil)))).opd)))
  exact ⟨_, q.ps, q.sn⟩

/-! ### row_of -/
abbrev st_row_of : Stmt := topS 12
abbrev N_row_of : List Str := ["tables", "content", "table", "key", "row"]
theorem sc_row_of : FnScope N_row_of ["tables", "content", "table", "key"] (defScope st_row_of) := ⟨rfl, rfl, rfl, by decide +kernel, rfl, by decide +kernel, by decide +kernel⟩
theorem ok_row_of {P : Program} {w : World} {K : PySem.W.Frag} {mg : Str → Option Value} {base : Heap} {k : Nat} {fa : Addr} {fd : FuncData} (m : Mo K w mg) (D : Dfn K "row_of" st_row_of ["tables", "content", "table", "key"] [] fa fd) (c_rows_of : Cal P w K mg base (L2.CX P w) k "rows_of" 3 [] F_rows_of) : FnG P w K mg base (L2.CX P w) (k + 1) fa fd ["tables", "content", "table", "key"] (spM K 4 F_row_of) :=
  dfn_ok (N := N_row_of) (own := [0, 1, 2, 3]) (body := B_row_of) D sc_row_of fun cdv A outer s H vs E hr hg => by
  have tk : Takes (cxOf (L2.CX P w) P w K mg base N_row_of "row_of" (defScope st_row_of) fa cdv A outer s H E) (fun c d _ H' => E c d H') := tk_cx
  have px := passX tk
  have q : MSs (cxOf (L2.CX P w) P w K mg base N_row_of "row_of" (defScope st_row_of) fa cdv A outer s H E) ⟨K, [0, 1, 2, 3], vs, fun c d _ H' => E c d H'⟩ (defBody st_row_of) _ (B_row_of) := (mss_cons (ms_for [4] (passes_of rfl) (mi_any ((me_call c_rows_of hr hg px (mas_cons ((me_var 0)).opd (mas_cons ((me_var 1)).opd (mas_cons ((me_var 2)).opd mas_nil))))).frz) (mg_nm 4 sc_row_of.nd) (mss_one (ms_if (mt_cmp (g := gEq) (op_eqK rfl hr) ops_eq ((me_ix (op_ixK rfl) ops_ix ((me_var 4)).opd (me_int).opd)).opd ((me_var 3)).opd) (mss_one (ms_ret (me_callTy (cr_tuple rfl) cs_tuple m.b_tuple (mas_cons ((me_var 4)).opd mas_nil) PyProof.Rows.boot_tuple))) mss_nil)))
    (mss_one (ms_ret me_non)))
  exact ⟨_, q.ps, q.sn⟩

/-! ### look_row -/
abbrev st_look_row : Stmt := topS 14
abbrev N_look_row : List Str := ["tables", "content", "table", "key", "row"]
theorem sc_look_row : FnScope N_look_row ["tables", "content", "table", "key"] (defScope st_look_row) := ⟨rfl, rfl, rfl, by decide +kernel, rfl, by decide +kernel, by decide +kernel⟩
def B_look_row : Sm := (sSeq (sSet 4 (mCall 4 F_row_of (msCons (oE (mVar 0)) (msCons (oE (mVar 1)) (msCons (oE (mVar 2)) (msCons (oE (mVar 3)) msNil))))))
    (sSeq (sIf (mBl (mOp (bo gIsN) (oE (mVar 4)) (oE (mC .none)))) (sRaise "NoRow" ["table", "key"] (dsCons (fE (oE (mVar 2))) (dsCons (fE (oE (mVar 3))) dsNil))) sNext)
    (sRet (mVar 4))))
def F_look_row : M RV := fnF [0, 1, 2, 3] 5 (B_look_row)
theorem ok_look_row {P : Program} {w : World} {K : PySem.W.Frag} {mg : Str → Option Value} {base : Heap} {k : Nat} {fa : Addr} {fd : FuncData} (m : Mo K w mg) (D : Dfn K "look_row" st_look_row ["tables", "content", "table", "key"] [] fa fd) (c_row_of : Cal P w K mg base (L2.CX P w) k "row_of" 4 [] F_row_of) (r_NoRow : Rse P w K mg base (L2.CX P w) "NoRow" ["table", "key"]) (hk2 : 2 ≤ k) : FnG P w K mg base (L2.CX P w) (k + 1) fa fd ["tables", "content", "table", "key"] (spM K 4 F_look_row) :=
  dfn_ok (N := N_look_row) (own := [0, 1, 2, 3]) (body := B_look_row) D sc_look_row fun cdv A outer s H vs E hr hg => by
  have tk : Takes (cxOf (L2.CX P w) P w K mg base N_look_row "look_row" (defScope st_look_row) fa cdv A outer s H E) (fun c d _ H' => E c d H') := tk_cx
  have px := passX tk
  have q : MSs (cxOf (L2.CX P w) P w K mg base N_look_row "look_row" (defScope st_look_row) fa cdv A outer s H E) ⟨K, [0, 1, 2, 3], vs, fun c d _ H' => E c d H'⟩ (defBody st_look_row) _ (B_look_row) := (mss_cons (ms_set 4 sc_look_row.nd (me_call c_row_of hr hg px (mas_cons ((me_var 0)).opd (mas_cons ((me_var 1)).opd (mas_cons ((me_var 2)).opd (mas_cons ((me_var 3)).opd mas_nil))))))
    (mss_cons (ms_if (mt_cmp (g := gIsN) (op_isN) ops_isN ((me_var 4)).opd (me_non).opd) (mss_one (ms_raise r_NoRow (hr.mono hk2) tk (mds_cons ((me_var 2)).frz (mds_cons ((me_var 3)).frz mds_nil)))) mss_nil)
    (mss_one (ms_ret (me_var 4)))))
  exact ⟨_, q.ps, q.sn⟩

/-! ### put_part -/
abbrev st_put_part : Stmt := topS 15
abbrev N_put_part : List Str := ["tables", "content", "table", "row"]
theorem sc_put_part : FnScope N_put_part ["tables", "content", "table", "row"] (defScope st_put_part) := ⟨rfl, rfl, rfl, by decide +kernel, rfl, by decide +kernel, by decide +kernel⟩
def B_put_part : Sm := (sSeq (sIf (mBl (mOp (bo gNotN) (oE (mCall 4 F_row_of (msCons (oE (mVar 0)) (msCons (oE (mVar 1)) (msCons (oE (mVar 2)) (msCons (oE (mOp gIx (oE (mVar 3)) (oE (mC (.int 0))))) msNil)))))) (oE (mC .none)))) (sRaise "Taken" ["table", "key"] (dsCons (fE (oE (mVar 2))) (dsCons (fE (oE (mOp gIx (oE (mVar 3)) (oE (mC (.int 0)))))) dsNil))) sNext)
    (sRet (mTl (msCons (mLst dsNil) (msCons (mLst dsNil) (msCons (mLst (dsCons (fE (oE (mTup (dsCons (fE (oE (mVar 2))) (dsCons (fE (oE (mCallB gTuple (msCons (oE (mVar 3)) msNil)))) dsNil))))) dsNil)) msNil))))))
def F_put_part : M RV := fnF [0, 1, 2, 3] 4 (B_put_part)
theorem ok_put_part {P : Program} {w : World} {K : PySem.W.Frag} {mg : Str → Option Value} {base : Heap} {k : Nat} {fa : Addr} {fd : FuncData} (m : Mo K w mg) (D : Dfn K "put_part" st_put_part ["tables", "content", "table", "row"] [] fa fd) (c_row_of : Cal P w K mg base (L2.CX P w) k "row_of" 4 [] F_row_of) (r_Taken : Rse P w K mg base (L2.CX P w) "Taken" ["table", "key"]) (hk2 : 2 ≤ k) : FnG P w K mg base (L2.CX P w) (k + 1) fa fd ["tables", "content", "table", "row"] (spM K 4 F_put_part) :=
  dfn_ok (N := N_put_part) (own := [0, 1, 2, 3]) (body := B_put_part) D sc_put_part fun cdv A outer s H vs E hr hg => by
  have tk : Takes (cxOf (L2.CX P w) P w K mg base N_put_part "put_part" (defScope st_put_part) fa cdv A outer s H E) (fun c d _ H' => E c d H') := tk_cx
  have px := passX tk
  have q : MSs (cxOf (L2.CX P w) P w K mg base N_put_part "put_part" (defScope st_put_part) fa cdv A outer s H E) ⟨K, [0, 1, 2, 3], vs, fun c d _ H' => E c d H'⟩ (defBody st_put_part) _ (B_put_part) := (mss_cons (ms_if (mt_cmp (g := gNotN) (op_notN) ops_notN ((me_call c_row_of hr hg px (mas_cons ((me_var 0)).opd (mas_cons ((me_var 1)).opd (mas_cons ((me_var 2)).opd (mas_cons ((me_ix (op_ixK rfl) ops_ix ((me_var 3)).opd (me_int).opd)).opd mas_nil)))))).opd (me_non).opd) (mss_one (ms_raise r_Taken (hr.mono hk2) tk (mds_cons ((me_var 2)).frz (mds_cons ((me_ix (op_ixK rfl) ops_ix ((me_var 3)).opd (me_int).opd)).frz mds_nil)))) mss_nil)
    (mss_one (ms_ret (me_tl (mrs_cons (me_lst (j := 0) mds_nil) (mrs_cons (me_lst (j := 0) mds_nil) (mrs_cons (me_lst (j := 0) (mds_cons ((me_tup (mds_cons ((me_var 2)).frz (mds_cons ((me_callTy (cr_tuple rfl) cs_tuple m.b_tuple (mas_cons ((me_var 3)).opd mas_nil) PyProof.Rows.boot_tuple)).frz mds_nil)))).frz mds_nil)) mrs_nil)))))))
  exact ⟨_, q.ps, q.sn⟩

/-! ### drop_part -/
abbrev st_drop_part : Stmt := topS 16
abbrev N_drop_part : List Str := ["tables", "content", "table", "key"]
theorem sc_drop_part : FnScope N_drop_part ["tables", "content", "table", "key"] (defScope st_drop_part) := ⟨rfl, rfl, rfl, by decide +kernel, rfl, by decide +kernel, by decide +kernel⟩
def B_drop_part : Sm := (sSeq (sExpr (mCall 4 F_look_row (msCons (oE (mVar 0)) (msCons (oE (mVar 1)) (msCons (oE (mVar 2)) (msCons (oE (mVar 3)) msNil))))))
    (sRet (mTl (msCons (mLst (dsCons (fE (oE (mTup (dsCons (fE (oE (mVar 2))) (dsCons (fE (oE (mVar 3))) dsNil))))) dsNil)) (msCons (mLst dsNil) (msCons (mLst dsNil) msNil))))))
def F_drop_part : M RV := fnF [0, 1, 2, 3] 4 (B_drop_part)
theorem ok_drop_part {P : Program} {w : World} {K : PySem.W.Frag} {mg : Str → Option Value} {base : Heap} {k : Nat} {fa : Addr} {fd : FuncData} (m : Mo K w mg) (D : Dfn K "drop_part" st_drop_part ["tables", "content", "table", "key"] [] fa fd) (c_look_row : Cal P w K mg base (L2.CX P w) k "look_row" 4 [] F_look_row) : FnG P w K mg base (L2.CX P w) (k + 1) fa fd ["tables", "content", "table", "key"] (spM K 4 F_drop_part) :=
  dfn_ok (N := N_drop_part) (own := [0, 1, 2, 3]) (body := B_drop_part) D sc_drop_part fun cdv A outer s H vs E hr hg => by
  have tk : Takes (cxOf (L2.CX P w) P w K mg base N_drop_part "drop_part" (defScope st_drop_part) fa cdv A outer s H E) (fun c d _ H' => E c d H') := tk_cx
  have px := passX tk
  have q : MSs (cxOf (L2.CX P w) P w K mg base N_drop_part "drop_part" (defScope st_drop_part) fa cdv A outer s H E) ⟨K, [0, 1, 2, 3], vs, fun c d _ H' => E c d H'⟩ (defBody st_drop_part) _ (B_drop_part) := (mss_cons (ms_expr (me_call c_look_row hr hg px (mas_cons ((me_var 0)).opd (mas_cons ((me_var 1)).opd (mas_cons ((me_var 2)).opd (mas_cons ((me_var 3)).opd mas_nil))))))
    (mss_one (ms_ret (me_tl (mrs_cons (me_lst (j := 0) (mds_cons ((me_tup (mds_cons ((me_var 2)).frz (mds_cons ((me_var 3)).frz mds_nil)))).frz mds_nil)) (mrs_cons (me_lst (j := 0) mds_nil) (mrs_cons (me_lst (j := 0) mds_nil) mrs_nil)))))))
  exact ⟨_, q.ps, q.sn⟩

/-! ### set_part -/
abbrev st_set_part : Stmt := topS 17
abbrev N_set_part : List Str := ["tables", "content", "table", "key", "column", "worth", "row"]
theorem sc_set_part : FnScope N_set_part ["tables", "content", "table", "key", "column", "worth"] (defScope st_set_part) := ⟨rfl, rfl, rfl, by decide +kernel, rfl, by decide +kernel, by decide +kernel⟩
def B_set_part : Sm := (sSeq (sSet 6 (mCall 4 F_look_row (msCons (oE (mVar 0)) (msCons (oE (mVar 1)) (msCons (oE (mVar 2)) (msCons (oE (mVar 3)) msNil))))))
    (sSeq (sIf (mBl (mOp (bo gEq) (oE (mOp gIx (oE (mVar 6)) (oE (mCall 3 F_column_place (msCons (oE (mVar 0)) (msCons (oE (mVar 2)) (msCons (oE (mVar 4)) msNil))))))) (oE (mVar 5)))) (sRet (mTl (msCons (mLst dsNil) (msCons (mLst dsNil) (msCons (mLst dsNil) msNil))))) sNext)
    (sRet (mTl (msCons (mLst dsNil) (msCons (mLst (dsCons (fE (oE (mTup (dsCons (fE (oE (mVar 2))) (dsCons (fE (oE (mVar 3))) (dsCons (fE (oE (mVar 4))) (dsCons (fE (oE (mVar 5))) dsNil))))))) dsNil)) (msCons (mLst dsNil) msNil)))))))
def F_set_part : M RV := fnF [0, 1, 2, 3, 4, 5] 7 (B_set_part)
theorem ok_set_part {P : Program} {w : World} {K : PySem.W.Frag} {mg : Str → Option Value} {base : Heap} {k : Nat} {fa : Addr} {fd : FuncData} (m : Mo K w mg) (D : Dfn K "set_part" st_set_part ["tables", "content", "table", "key", "column", "worth"] [] fa fd) (c_column_place : Cal P w K mg base (L2.CX P w) k "column_place" 3 [] F_column_place) (c_look_row : Cal P w K mg base (L2.CX P w) k "look_row" 4 [] F_look_row) : FnG P w K mg base (L2.CX P w) (k + 1) fa fd ["tables", "content", "table", "key", "column", "worth"] (spM K 6 F_set_part) :=
  dfn_ok (N := N_set_part) (own := [0, 1, 2, 3, 4, 5]) (body := B_set_part) D sc_set_part fun cdv A outer s H vs E hr hg => by
  have tk : Takes (cxOf (L2.CX P w) P w K mg base N_set_part "set_part" (defScope st_set_part) fa cdv A outer s H E) (fun c d _ H' => E c d H') := tk_cx
  have px := passX tk
  have q : MSs (cxOf (L2.CX P w) P w K mg base N_set_part "set_part" (defScope st_set_part) fa cdv A outer s H E) ⟨K, [0, 1, 2, 3, 4, 5], vs, fun c d _ H' => E c d H'⟩ (defBody st_set_part) _ (B_set_part) := (mss_cons (ms_set 6 sc_set_part.nd (me_call c_look_row hr hg px (mas_cons ((me_var 0)).opd (mas_cons ((me_var 1)).opd (mas_cons ((me_var 2)).opd (mas_cons ((me_var 3)).opd mas_nil))))))
    (mss_cons (ms_if (mt_cmp (g := gEq) (op_eqK rfl hr) ops_eq ((me_ix (op_ixK rfl) ops_ix ((me_var 6)).opd ((me_call c_column_place hr hg px (mas_cons ((me_var 0)).opd (mas_cons ((me_var 2)).opd (mas_cons ((me_var 4)).opd mas_nil))))).opd)).opd ((me_var 5)).opd) (mss_one (ms_ret (me_tl (mrs_cons (me_lst (j := 0) mds_nil) (mrs_cons (me_lst (j := 0) mds_nil) (mrs_cons (me_lst (j := 0) mds_nil) mrs_nil)))))) mss_nil)
    (mss_one (ms_ret (me_tl (mrs_cons (me_lst (j := 0) mds_nil) (mrs_cons (me_lst (j := 0) (mds_cons ((me_tup (mds_cons ((me_var 2)).frz (mds_cons ((me_var 3)).frz (mds_cons ((me_var 4)).frz (mds_cons ((me_var 5)).frz mds_nil)))))).frz mds_nil)) (mrs_cons (me_lst (j := 0) mds_nil) mrs_nil))))))))
  exact ⟨_, q.ps, q.sn⟩

/-! ### sweep_part -/
abbrev st_sweep_part : Stmt := topS 18
abbrev N_sweep_part : List Str := ["tables", "content", "table", "column", "worth", "place", "row"]
theorem sc_sweep_part : FnScope N_sweep_part ["tables", "content", "table", "column", "worth"] (defScope st_sweep_part) := ⟨rfl, rfl, rfl, by decide +kernel, rfl, by decide +kernel, by decide +kernel⟩
def B_sweep_part : Sm := (sSeq (sSet 5 (mCall 3 F_column_place (msCons (oE (mVar 0)) (msCons (oE (mVar 2)) (msCons (oE (mVar 3)) msNil)))))
    (sRet (mTl (msCons (mLc (mIt (fE (oE (mCall 3 F_rows_of (msCons (oE (mVar 0)) (msCons (oE (mVar 1)) (msCons (oE (mVar 2)) msNil))))))) (.nm 6) [6] (mBl (mOp (bo gEq) (oE (mOp gIx (oE (mVar 6)) (oE (mVar 5)))) (oE (mVar 4)))) (fE (oE (mTup (dsCons (fE (oE (mVar 2))) (dsCons (fE (oE (mOp gIx (oE (mVar 6)) (oE (mC (.int 0)))))) dsNil)))))) (msCons (mLst dsNil) (msCons (mLst dsNil) msNil))))))
def F_sweep_part : M RV := fnF [0, 1, 2, 3, 4] 7 (B_sweep_part)
theorem ok_sweep_part {P : Program} {w : World} {K : PySem.W.Frag} {mg : Str → Option Value} {base : Heap} {k : Nat} {fa : Addr} {fd : FuncData} (m : Mo K w mg) (D : Dfn K "sweep_part" st_sweep_part ["tables", "content", "table", "column", "worth"] [] fa fd) (c_rows_of : Cal P w K mg base (L2.CX P w) k "rows_of" 3 [] F_rows_of) (c_column_place : Cal P w K mg base (L2.CX P w) k "column_place" 3 [] F_column_place) : FnG P w K mg base (L2.CX P w) (k + 1) fa fd ["tables", "content", "table", "column", "worth"] (spM K 5 F_sweep_part) :=
  dfn_ok (N := N_sweep_part) (own := [0, 1, 2, 3, 4]) (body := B_sweep_part) D sc_sweep_part fun cdv A outer s H vs E hr hg => by
  have tk : Takes (cxOf (L2.CX P w) P w K mg base N_sweep_part "sweep_part" (defScope st_sweep_part) fa cdv A outer s H E) (fun c d _ H' => E c d H') := tk_cx
  have px := passX tk
  have q : MSs (cxOf (L2.CX P w) P w K mg base N_sweep_part "sweep_part" (defScope st_sweep_part) fa cdv A outer s H E) ⟨K, [0, 1, 2, 3, 4], vs, fun c d _ H' => E c d H'⟩ (defBody st_sweep_part) _ (B_sweep_part) := (mss_cons (ms_set 5 sc_sweep_part.nd (me_call c_column_place hr hg px (mas_cons ((me_var 0)).opd (mas_cons ((me_var 2)).opd (mas_cons ((me_var 3)).opd mas_nil)))))
    (mss_one (ms_ret (me_tl (mrs_cons (me_lc [6] (blk_ok (N := N_sweep_part) (sc := defScope st_sweep_part) (own := [("row", 6)]) rfl (by decide +kernel)) sc_sweep_part.nd (mi_any ((me_call c_rows_of hr hg px (mas_cons ((me_var 0)).opd (mas_cons ((me_var 1)).opd (mas_cons ((me_var 2)).opd mas_nil))))).frz) (hv_of rfl) (fun _ _ _ _ _ => (mg_nm 6 sc_sweep_part.nd)) (fun _ _ _ _ _ => let q0 := (mt_cmp (g := gEq) (op_eqK rfl hr) ops_eq ((me_ix (op_ixK rfl) ops_ix ((me_var 6)).opd ((me_var 5)).opd)).opd ((me_var 4)).opd); ⟨pts_one q0.pt, q0.sn⟩) (fun _ _ _ _ _ => ((me_tup (mds_cons ((me_var 2)).frz (mds_cons ((me_ix (op_ixK rfl) ops_ix ((me_var 6)).opd (me_int).opd)).frz mds_nil)))).frz)) (mrs_cons (me_lst (j := 0) mds_nil) (mrs_cons (me_lst (j := 0) mds_nil) mrs_nil)))))))
  exact ⟨_, q.ps, q.sn⟩

/-! ### shift_part -/
abbrev st_shift_part : Stmt := topS 19
abbrev N_shift_part : List Str := ["tables", "content", "table", "column", "by", "place", "some", "row"]
theorem sc_shift_part : FnScope N_shift_part ["tables", "content", "table", "column", "by"] (defScope st_shift_part) := ⟨rfl, rfl, rfl, by decide +kernel, rfl, by decide +kernel, by decide +kernel⟩
def B_shift_part : Sm := (sSeq (sSet 5 (mCall 3 F_column_place (msCons (oE (mVar 0)) (msCons (oE (mVar 2)) (msCons (oE (mVar 3)) msNil)))))
    (sSeq (sIf (mBl (mOp (bo gEq) (oE (mVar 4)) (oE (mC (.int 0))))) (sRet (mTl (msCons (mLst dsNil) (msCons (mLst dsNil) (msCons (mLst dsNil) msNil))))) sNext)
    (sSeq (sSet 6 (mLc (mIt (fE (oE (mCall 3 F_rows_of (msCons (oE (mVar 0)) (msCons (oE (mVar 1)) (msCons (oE (mVar 2)) msNil))))))) (.nm 7) [7] (mBl (mOp (bo gNotN) (oE (mOp gIx (oE (mVar 7)) (oE (mVar 5)))) (oE (mC .none)))) (fE (oE (mVar 7)))))
    (sRet (mTl (msCons (mLst dsNil) (msCons (mLc (mIt (fE (oE (mVar 6)))) (.nm 7) [7] mYes (fE (oE (mTup (dsCons (fE (oE (mVar 2))) (dsCons (fE (oE (mOp gIx (oE (mVar 7)) (oE (mC (.int 0)))))) (dsCons (fE (oE (mVar 3))) (dsCons (fE (oE (mOp gAdd (oE (mOp gIx (oE (mVar 7)) (oE (mVar 5)))) (oE (mVar 4))))) dsNil)))))))) (msCons (mLst dsNil) msNil))))))))
def F_shift_part : M RV := fnF [0, 1, 2, 3, 4] 8 (B_shift_part)
theorem ok_shift_part {P : Program} {w : World} {K : PySem.W.Frag} {mg : Str → Option Value} {base : Heap} {k : Nat} {fa : Addr} {fd : FuncData} (m : Mo K w mg) (D : Dfn K "shift_part" st_shift_part ["tables", "content", "table", "column", "by"] [] fa fd) (c_rows_of : Cal P w K mg base (L2.CX P w) k "rows_of" 3 [] F_rows_of) (c_column_place : Cal P w K mg base (L2.CX P w) k "column_place" 3 [] F_column_place) : FnG P w K mg base (L2.CX P w) (k + 1) fa fd ["tables", "content", "table", "column", "by"] (spM K 5 F_shift_part) :=
  dfn_ok (N := N_shift_part) (own := [0, 1, 2, 3, 4]) (body := B_shift_part) D sc_shift_part fun cdv A outer s H vs E hr hg => by
  have tk : Takes (cxOf (L2.CX P w) P w K mg base N_shift_part "shift_part" (defScope st_shift_part) fa cdv A outer s H E) (fun c d _ H' => E c d H') := tk_cx
  have px := passX tk
  have q : MSs (cxOf (L2.CX P w) P w K mg base N_shift_part "shift_part" (defScope st_shift_part) fa cdv A outer s H E) ⟨K, [0, 1, 2, 3, 4], vs, fun c d _ H' => E c d H'⟩ (defBody st_shift_part) _ (B_shift_part) := (mss_cons (ms_set 5 sc_shift_part.nd (me_call c_column_place hr hg px (mas_cons ((me_var 0)).opd (mas_cons ((me_var 2)).opd (mas_cons ((me_var 3)).opd mas_nil)))))
    (mss_cons (ms_if (mt_cmp (g := gEq) (op_eqK rfl hr) ops_eq ((me_var 4)).opd (me_int).opd) (mss_one (ms_ret (me_tl (mrs_cons (me_lst (j := 0) mds_nil) (mrs_cons (me_lst (j := 0) mds_nil) (mrs_cons (me_lst (j := 0) mds_nil) mrs_nil)))))) mss_nil)
    (mss_cons (ms_setLc 6 [7] (blk_ok (N := N_shift_part) (sc := defScope st_shift_part) (own := [("row", 7)]) rfl (by decide +kernel)) sc_shift_part.nd (mi_any ((me_call c_rows_of hr hg px (mas_cons ((me_var 0)).opd (mas_cons ((me_var 1)).opd (mas_cons ((me_var 2)).opd mas_nil))))).frz) (hv_of rfl) (fun _ _ _ _ _ => (mg_nm 7 sc_shift_part.nd)) (fun _ _ _ _ _ => let q0 := (mt_cmp (g := gNotN) (op_notN) ops_notN ((me_ix (op_ixK rfl) ops_ix ((me_var 7)).opd ((me_var 5)).opd)).opd (me_non).opd); ⟨pts_one q0.pt, q0.sn⟩) (fun _ _ _ _ _ => ((me_var 7)).frz))
    (mss_one (ms_ret (me_tl (mrs_cons (me_lst (j := 0) mds_nil) (mrs_cons (me_lc [7] (blk_ok (N := N_shift_part) (sc := defScope st_shift_part) (own := [("row", 7)]) rfl (by decide +kernel)) sc_shift_part.nd (mi_any ((me_var 6)).frz) (hv_of rfl) (fun _ _ _ _ _ => (mg_nm 7 sc_shift_part.nd)) (fun _ _ _ _ _ => ⟨pts_nil, snd_yes⟩) (fun _ _ _ _ _ => ((me_tup (mds_cons ((me_var 2)).frz (mds_cons ((me_ix (op_ixK rfl) ops_ix ((me_var 7)).opd (me_int).opd)).frz (mds_cons ((me_var 3)).frz (mds_cons ((me_op (op_addX rfl) ops_add ((me_ix (op_ixK rfl) ops_ix ((me_var 7)).opd ((me_var 5)).opd)).opd ((me_var 4)).opd)).frz mds_nil)))))).frz)) (mrs_cons (me_lst (j := 0) mds_nil) mrs_nil)))))))))
  exact ⟨_, q.ps, q.sn⟩

/-! ### own_part -/
abbrev st_own_part : Stmt := topS 22
abbrev N_own_part : List Str := ["tables", "content", "deed", "word", "table", "parts", "key", "column", "worth"]
theorem sc_own_part : FnScope N_own_part ["tables", "content", "deed"] (defScope st_own_part) := ⟨rfl, rfl, rfl, by decide +kernel, rfl, by decide +kernel, by decide +kernel⟩
def B_own_part : Sm := (sSeq (sStar (fE (oE (mVar 2))) 2 [(.nm 3), (.nm 4), (.nm 5)])
    (sSeq (sIf (mBl (mTabIn [("put", "put_part"), ("drop", "drop_part")] (oE (mVar 3)))) (sRet (mCallT 4 [("put", F_put_part), ("drop", F_drop_part)] (oE (mVar 3)) (msCons (oE (mVar 0)) (msCons (oE (mVar 1)) (msCons (oE (mVar 4)) (msCons (oE (mOp gIx (oE (mVar 5)) (oE (mC (.int 0))))) msNil)))))) sNext)
    (sSeq (sIf (mBl (mTabIn [("sweep", "sweep_part"), ("shift", "shift_part")] (oE (mVar 3)))) (sRet (mCallT 5 [("sweep", F_sweep_part), ("shift", F_shift_part)] (oE (mVar 3)) (msCons (oE (mVar 0)) (msCons (oE (mVar 1)) (msCons (oE (mVar 4)) (msCons (oE (mOp gIx (oE (mVar 5)) (oE (mC (.int 0))))) (msCons (oE (mOp gIx (oE (mVar 5)) (oE (mC (.int 1))))) msNil))))))) sNext)
    (sSeq (sUnp (fE (oE (mVar 5))) (.tp [(.nm 6), (.nm 7), (.nm 8)]))
    (sRet (mCall 6 F_set_part (msCons (oE (mVar 0)) (msCons (oE (mVar 1)) (msCons (oE (mVar 4)) (msCons (oE (mVar 6)) (msCons (oE (mVar 7)) (msCons (oE (mVar 8)) msNil))))))))))))
def F_own_part : M RV := fnF [0, 1, 2] 9 (B_own_part)
theorem ok_own_part {P : Program} {w : World} {K : PySem.W.Frag} {mg : Str → Option Value} {base : Heap} {k : Nat} {fa : Addr} {fd : FuncData} (m : Mo K w mg) (D : Dfn K "own_part" st_own_part ["tables", "content", "deed"] [] fa fd) (c_set_part : Cal P w K mg base (L2.CX P w) k "set_part" 6 [] F_set_part) (c_sweep_part : Cal P w K mg base (L2.CX P w) k "sweep_part" 5 [] F_sweep_part) (c_shift_part : Cal P w K mg base (L2.CX P w) k "shift_part" 5 [] F_shift_part) (c_put_part : Cal P w K mg base (L2.CX P w) k "put_part" 4 [] F_put_part) (c_drop_part : Cal P w K mg base (L2.CX P w) k "drop_part" 4 [] F_drop_part) : FnG P w K mg base (L2.CX P w) (k + 1) fa fd ["tables", "content", "deed"] (spM K 3 F_own_part) :=
  dfn_ok (N := N_own_part) (own := [0, 1, 2]) (body := B_own_part) D sc_own_part fun cdv A outer s H vs E hr hg => by
  have tk : Takes (cxOf (L2.CX P w) P w K mg base N_own_part "own_part" (defScope st_own_part) fa cdv A outer s H E) (fun c d _ H' => E c d H') := tk_cx
  have px := passX tk
  have q : MSs (cxOf (L2.CX P w) P w K mg base N_own_part "own_part" (defScope st_own_part) fa cdv A outer s H E) ⟨K, [0, 1, 2], vs, fun c d _ H' => E c d H'⟩ (defBody st_own_part) _ (B_own_part) := (mss_cons (ms_star (n := 2) [3, 4, 5] ((me_var 2)).frz (mgs_cons (mg_nm 3 sc_own_part.nd) (mgs_cons (mg_nm 4 sc_own_part.nd) (mgs_star (mg_nm 5 sc_own_part.nd) mgs_nil))))
    (mss_cons (ms_if (mt_tabIn m.tb_ROW_PARTS ((me_var 3)).opd) (mss_one (ms_ret (me_callT m.tb_ROW_PARTS (.cons c_put_part (.cons c_drop_part .nil)) hr hg px ((me_var 3)).opd (mas_cons ((me_var 0)).opd (mas_cons ((me_var 1)).opd (mas_cons ((me_var 4)).opd (mas_cons ((me_ix (op_ixK rfl) ops_ix ((me_var 5)).opd (me_int).opd)).opd mas_nil))))))) mss_nil)
    (mss_cons (ms_if (mt_tabIn m.tb_COLUMN_PARTS ((me_var 3)).opd) (mss_one (ms_ret (me_callT m.tb_COLUMN_PARTS (.cons c_sweep_part (.cons c_shift_part .nil)) hr hg px ((me_var 3)).opd (mas_cons ((me_var 0)).opd (mas_cons ((me_var 1)).opd (mas_cons ((me_var 4)).opd (mas_cons ((me_ix (op_ixK rfl) ops_ix ((me_var 5)).opd (me_int).opd)).opd (mas_cons ((me_ix (op_ixK rfl) ops_ix ((me_var 5)).opd (me_int).opd)).opd mas_nil)))))))) mss_nil)
    (mss_cons (ms_unp [6, 7, 8] ((me_var 5)).frz (mg_tp (mgs_cons (mg_nm 6 sc_own_part.nd) (mgs_cons (mg_nm 7 sc_own_part.nd) (mgs_cons (mg_nm 8 sc_own_part.nd) mgs_nil)))))
    (mss_one (ms_ret (me_call c_set_part hr hg px (mas_cons ((me_var 0)).opd (mas_cons ((me_var 1)).opd (mas_cons ((me_var 4)).opd (mas_cons ((me_var 6)).opd (mas_cons ((me_var 7)).opd (mas_cons ((me_var 8)).opd mas_nil)))))))))))))
  exact ⟨_, q.ps, q.sn⟩

/-! ### _law_begin -/
abbrev st_law_begin : Stmt := topS 24
abbrev N_law_begin : List Str := ["script", "cells"]
theorem sc_law_begin : FnScope N_law_begin ["script"] (defScope st_law_begin) := ⟨rfl, rfl, rfl, by decide +kernel, rfl, by decide +kernel, by decide +kernel⟩
theorem ok_law_begin {P : Program} {w : World} {K : PySem.W.Frag} {mg : Str → Option Value} {base : Heap} {k : Nat} {fa : Addr} {fd : FuncData} (m : Mo K w mg) (D : Dfn K "_law_begin" st_law_begin ["script"] [] fa fd)  : FnG P w K mg base (L2.CX P w) (k + 1) fa fd ["script"] (spM K 1 F_law_begin) :=
  dfn_ok (N := N_law_begin) (own := [0]) (body := B_law_begin) D sc_law_begin fun cdv A outer s H vs E hr hg => by
  have tk : Takes (cxOf (L2.CX P w) P w K mg base N_law_begin "_law_begin" (defScope st_law_begin) fa cdv A outer s H E) (fun c d _ H' => E c d H') := tk_cx
  have px := passX tk
  have q : MSs (cxOf (L2.CX P w) P w K mg base N_law_begin "_law_begin" (defScope st_law_begin) fa cdv A outer s H E) ⟨K, [0], vs, fun c d _ H' => E c d H'⟩ (defBody st_law_begin) _ (B_law_begin) := (mss_cons (ms_set 1 sc_law_begin.nd (me_callTy (cr_list rfl) cs_list m.b_list (mas_cons ((me_scrSl 0 mpo_none (mpo_some (me_int).opd))).opd mas_nil) PyProof.Rows.boot_list))
    (mss_cons (ms_if (mt_cmp (g := gEq) (op_eqK rfl hr) ops_eq ((me_var 1)).opd ((me_lst (j := 0) mds_nil)).opd) (mss_one (ms_set 1 sc_law_begin.nd (me_lst (j := 0) (mds_cons (me_int).frz mds_nil)))) mss_nil)
    (mss_one (ms_retSt 1))))
  exact ⟨_, q.ps, q.sn⟩

/-! ### _law_take -/
abbrev st_law_take : Stmt := topS 25
abbrev N_law_take : List Str := ["state", "many", "turn", "place", "cell", "digit", "wide", "mixed"]
theorem sc_law_take : FnScope N_law_take ["state", "many"] (defScope st_law_take) := ⟨rfl, rfl, rfl, by decide +kernel, rfl, by decide +kernel, by decide +kernel⟩
theorem ok_law_take {P : Program} {w : World} {K : PySem.W.Frag} {mg : Str → Option Value} {base : Heap} {k : Nat} {fa : Addr} {fd : FuncData} (m : Mo K w mg) (D : Dfn K "_law_take" st_law_take ["state", "many"] [] fa fd)  : FnG P w K mg base (L2.CX P w) (k + 1) fa fd ["state", "many"] (spM K 2 F_law_take) :=
  dfn_ok (N := N_law_take) (own := [0, 1]) (body := B_law_take) D sc_law_take fun cdv A outer s H vs E hr hg => by
  have tk : Takes (cxOf (L2.CX P w) P w K mg base N_law_take "_law_take" (defScope st_law_take) fa cdv A outer s H E) (fun c d _ H' => E c d H') := tk_cx
  have px := passX tk
  have q : MSs (cxOf (L2.CX P w) P w K mg base N_law_take "_law_take" (defScope st_law_take) fa cdv A outer s H E) ⟨K, [0, 1], vs, fun c d _ H' => E c d H'⟩ (defBody st_law_take) _ (B_law_take) := (mss_cons (ms_set 2 sc_law_take.nd (me_op (op_addX rfl) ops_add ((me_stTurn 0 hr)).opd (me_int).opd))
    (mss_cons (ms_stTurn 0 hr ((me_var 2)).opd)
    (mss_cons (ms_set 3 sc_law_take.nd (me_op (op_mod) ops_mod ((me_var 2)).opd ((me_stLen 0 hr m.b_len)).opd))
    (mss_cons (ms_set 4 sc_law_take.nd (me_stCell 0 3 hr))
    (mss_cons (ms_if (mt_cmp (g := gGe) (op_ge) ops_gI ((me_var 4)).opd ((me_op (op_pow) ops_pow (me_int).opd (me_int).opd)).opd) (mss_cons (ms_stPut 0 5 3 hr sc_law_take.nd m.b_divmod ((me_var 4)).opd ((me_var 1)).opd)
    (mss_one (ms_ret (me_var 5)))) mss_nil)
    (mss_cons (ms_set 6 sc_law_take.nd (me_op (op_addX rfl) ops_add ((me_op (op_mod) ops_mod ((me_var 4)).opd (me_int).opd)).opd ((me_op (op_mulXX) ops_mul ((me_op (op_mod) ops_mod ((me_op (op_fdivW) ops_div ((me_var 4)).opd (me_int).opd)).opd (me_int).opd)).opd (me_int).opd)).opd))
    (mss_cons (ms_set 7 sc_law_take.nd (me_op (op_mod) ops_mod ((me_op (op_mulXX) ops_mul ((me_op (op_addX rfl) ops_add ((me_op (op_addX rfl) ops_add ((me_var 6)).opd ((me_op (op_mulXX) ops_mul ((me_op (op_mulXX) ops_mul ((me_var 2)).opd ((me_var 2)).opd)).opd (me_int).opd)).opd)).opd (me_int).opd)).opd (me_int).opd)).opd (me_int).opd))
    (mss_cons (ms_set 7 sc_law_take.nd (me_op (op_mod) ops_mod ((me_op (op_mulXX) ops_mul ((me_var 7)).opd ((me_var 7)).opd)).opd (me_int).opd))
    (mss_one (ms_ret (me_op (op_mod) ops_mod ((me_op (op_fdivW) ops_div ((me_op (op_mod) ops_mod ((me_op (op_mulXX) ops_mul ((me_op (op_addX rfl) ops_add ((me_var 7)).opd ((me_op (op_mulXX) ops_mul ((me_var 2)).opd (me_int).opd)).opd)).opd (me_int).opd)).opd (me_int).opd)).opd (me_int).opd)).opd ((me_var 1)).opd)))))))))))
  exact ⟨_, q.ps, q.sn⟩

/-! ### _law_some -/
abbrev st_law_some : Stmt := topS 26
abbrev N_law_some : List Str := ["state", "things"]
theorem sc_law_some : FnScope N_law_some ["state", "things"] (defScope st_law_some) := ⟨rfl, rfl, rfl, by decide +kernel, rfl, by decide +kernel, by decide +kernel⟩
theorem ok_law_some {P : Program} {w : World} {K : PySem.W.Frag} {mg : Str → Option Value} {base : Heap} {k : Nat} {fa : Addr} {fd : FuncData} (m : Mo K w mg) (D : Dfn K "_law_some" st_law_some ["state", "things"] [] fa fd) (c_law_take : Cal P w K mg base (L2.CX P w) k "_law_take" 2 [] F_law_take) : FnG P w K mg base (L2.CX P w) (k + 1) fa fd ["state", "things"] (spM K 2 F_law_some) :=
  dfn_ok (N := N_law_some) (own := [0, 1]) (body := B_law_some) D sc_law_some fun cdv A outer s H vs E hr hg => by
  have tk : Takes (cxOf (L2.CX P w) P w K mg base N_law_some "_law_some" (defScope st_law_some) fa cdv A outer s H E) (fun c d _ H' => E c d H') := tk_cx
  have px := passX tk
  have q : MSs (cxOf (L2.CX P w) P w K mg base N_law_some "_law_some" (defScope st_law_some) fa cdv A outer s H E) ⟨K, [0, 1], vs, fun c d _ H' => E c d H'⟩ (defBody st_law_some) _ (B_law_some) := (mss_one (ms_ret (me_ix (op_ixK rfl) ops_ix ((me_var 1)).opd ((me_call c_law_take hr hg px (mas_cons ((me_var 0)).opd (mas_cons ((me_callB (cr_len rfl) cs_len m.b_len (mas_cons ((me_var 1)).opd mas_nil) PySem.boot_len)).opd mas_nil)))).opd)))
  exact ⟨_, q.ps, q.sn⟩

/-! ### _law_names -/
abbrev st_law_names : Stmt := topS 27
abbrev N_law_names : List Str := ["state", "many", "letters", "first", "way", "stem", "turn", "at", "step", "short", "plain", "some", "k", "name", "found", "word"]
theorem sc_law_names : FnScope N_law_names ["state", "many"] (defScope st_law_names) := ⟨rfl, rfl, rfl, by decide +kernel, rfl, by decide +kernel, by decide +kernel⟩
theorem ok_law_names {P : Program} {w : World} {K : PySem.W.Frag} {mg : Str → Option Value} {base : Heap} {k : Nat} {fa : Addr} {fd : FuncData} (m : Mo K w mg) (D : Dfn K "_law_names" st_law_names ["state", "many"] [] fa fd) (c_law_take : Cal P w K mg base (L2.CX P w) k "_law_take" 2 [] F_law_take) : FnG P w K mg base (L2.CX P w) (k + 1) fa fd ["state", "many"] (spM K 2 F_law_names) :=
  dfn_ok (N := N_law_names) (own := [0, 1]) (body := B_law_names) D sc_law_names fun cdv A outer s H vs E hr hg => by
  have tk : Takes (cxOf (L2.CX P w) P w K mg base N_law_names "_law_names" (defScope st_law_names) fa cdv A outer s H E) (fun c d _ H' => E c d H') := tk_cx
  have px := passX tk
  have q : MSs (cxOf (L2.CX P w) P w K mg base N_law_names "_law_names" (defScope st_law_names) fa cdv A outer s H E) ⟨K, [0, 1], vs, fun c d _ H' => E c d H'⟩ (defBody st_law_names) _ (B_law_names) := (mss_cons (ms_unp [2, 3, 4] ((me_tup (mds_cons (me_str).frz (mds_cons ((me_call c_law_take hr hg px (mas_cons ((me_var 0)).opd (mas_cons (me_int).opd mas_nil)))).frz (mds_cons ((me_call c_law_take hr hg px (mas_cons ((me_var 0)).opd (mas_cons (me_int).opd mas_nil)))).frz mds_nil))))).frz (mg_tp (mgs_cons (mg_nm 2 sc_law_names.nd) (mgs_cons (mg_nm 3 sc_law_names.nd) (mgs_cons (mg_nm 4 sc_law_names.nd) mgs_nil)))))
    (mss_cons (ms_set 5 sc_law_names.nd (me_bm PySem.F.slot_str_join PySem.F.type_str_join (mr_join rfl) mts_join (me_str).opd (mas_cons ((me_lc [6] (blk_ok (N := N_law_names) (sc := defScope st_law_names) (own := [("turn", 6)]) rfl (by decide +kernel)) sc_law_names.nd (mi_rng1 m.b_range (mas_cons ((me_call c_law_take hr hg px (mas_cons ((me_var 0)).opd (mas_cons (me_int).opd mas_nil)))).opd mas_nil)) (hv_of rfl) (fun _ _ _ _ _ => (mg_nm 6 sc_law_names.nd)) (fun _ _ _ _ _ => ⟨pts_nil, snd_yes⟩) (fun _ _ _ _ _ => ((me_ix (op_ixK rfl) ops_ix ((me_var 2)).opd ((me_call c_law_take hr hg passN (mas_cons ((me_var 0)).opd (mas_cons (me_int).opd mas_nil)))).opd)).frz))).opd mas_nil)))
    (mss_cons (ms_par3 7 8 9 sc_law_names.nd (mrs_cons (me_call c_law_take hr hg px (mas_cons ((me_var 0)).opd (mas_cons ((me_op (op_addX rfl) ops_add ((me_callB (cr_len rfl) cs_len m.b_len (mas_cons ((me_var 5)).opd mas_nil) PySem.boot_len)).opd (me_int).opd)).opd mas_nil))) (mrs_cons (me_ix (op_ixK rfl) ops_ix ((me_lst (j := 0) (mds_cons (me_int).frz (mds_cons (me_int).frz (mds_cons (me_int).frz mds_nil))))).opd ((me_call c_law_take hr hg px (mas_cons ((me_var 0)).opd (mas_cons (me_int).opd mas_nil)))).opd) (mrs_cons (me_call c_law_take hr hg px (mas_cons ((me_var 0)).opd (mas_cons (me_int).opd mas_nil))) mrs_nil))))
    (mss_cons (ms_par2 10 11 sc_law_names.nd (mrs_cons (me_lst (j := 0) mds_nil) (mrs_cons (me_lst (j := 0) (mds_cons (me_str).frz (mds_cons (me_str).frz (mds_cons (me_str).frz (mds_cons (me_str).frz (mds_cons (me_str).frz (mds_cons (me_str).frz (mds_cons (me_str).frz (mds_cons (me_str).frz (mds_cons (me_str).frz (mds_cons (me_str).frz (mds_cons (me_str).frz (mds_cons (me_str).frz (mds_cons (me_str).frz mds_nil)))))))))))))) mrs_nil)))
    (mss_cons (ms_for [12] (passes_of rfl) (mi_rng1 m.b_range (mas_cons ((me_var 1)).opd mas_nil)) (mg_nm 12 sc_law_names.nd) (mss_cons (ms_set 13 sc_law_names.nd (me_op (op_addX rfl) ops_add ((me_sl (sl_X rfl) sls_X ((me_var 5)).opd mpo_none (mpo_some ((me_var 7)).opd))).opd ((me_ix (op_ixK rfl) ops_ix ((me_var 2)).opd ((me_op (op_mod) ops_mod ((me_op (op_addX rfl) ops_add ((me_var 3)).opd ((me_op (op_mulXX) ops_mul ((me_var 8)).opd ((me_var 12)).opd)).opd)).opd (me_int).opd)).opd)).opd))
    (mss_one (ms_append 10 (mds_cons ((me_op (op_addX rfl) ops_add ((me_var 13)).opd ((me_ix (op_ixK rfl) ops_ix ((me_lst (j := 0) (mds_cons ((me_sl (sl_X rfl) sls_X ((me_var 5)).opd (mpo_some ((me_var 7)).opd) mpo_none)).frz (mds_cons ((me_sl (sl_X rfl) sls_X ((me_sl (sl_X rfl) sls_X ((me_var 5)).opd (mpo_some ((me_var 7)).opd) mpo_none)).opd mpo_none (mpo_some ((me_op (op_mod) ops_mod ((me_var 12)).opd (me_int).opd)).opd))).frz mds_nil)))).opd ((me_var 9)).opd)).opd)).frz mds_nil) ((me_op (op_addX rfl) ops_add ((me_var 13)).opd ((me_ix (op_ixK rfl) ops_ix ((me_lst (j := 0) (mds_cons ((me_sl (sl_X rfl) sls_X ((me_var 5)).opd (mpo_some ((me_var 7)).opd) mpo_none)).frz (mds_cons ((me_sl (sl_X rfl) sls_X ((me_sl (sl_X rfl) sls_X ((me_var 5)).opd (mpo_some ((me_var 7)).opd) mpo_none)).opd mpo_none (mpo_some ((me_op (op_mod) ops_mod ((me_var 12)).opd (me_int).opd)).opd))).frz mds_nil)))).opd ((me_var 9)).opd)).opd)).frz))))
    (mss_cons (ms_set 14 sc_law_names.nd (me_callTy (cr_list rfl) cs_list m.b_list (mas_cons ((me_var 10)).opd mas_nil) PyProof.Rows.boot_list))
    (mss_cons (ms_for [12] (passes_of rfl) (mi_rng1 m.b_range (mas_cons ((me_op (op_mulXX) ops_mul ((me_callB (call_min2 rfl) cs_min m.b_min (mas_cons ((me_var 1)).opd (mas_cons (me_int).opd mas_nil)) PyProof.Rows.boot_min)).opd ((me_callTy (call_int1) cs_int m.b_int (mas_cons ((me_cmp (g := gEq) (op_eqK rfl hr) ops_eq ((me_var 4)).opd (me_int).opd)).opd mas_nil) PyProof.Rows.boot_int)).opd)).opd mas_nil)) (mg_nm 12 sc_law_names.nd) (mss_cons (ms_set 15 sc_law_names.nd (me_ix (op_ixK rfl) ops_ix ((me_var 11)).opd ((me_op (op_mod) ops_mod ((me_op (op_addX rfl) ops_add ((me_var 3)).opd ((me_var 12)).opd)).opd (me_int).opd)).opd))
    (mss_one (ms_if ((mw_and (mt_cmp (g := gNotIn) (op_notInX rfl hr) ops_notIn ((me_var 15)).opd ((me_var 10)).opd) (mw_and1 (mt_cmp (g := gEq) (op_eqK rfl hr) ops_eq ((me_call c_law_take hr hg px (mas_cons ((me_var 0)).opd (mas_cons (me_int).opd mas_nil)))).opd (me_int).opd)))).toT (mss_one (ms_setItem 14 ((me_var 15)).frz ((me_var 12)).opd)) mss_nil))))
    (mss_one (ms_ret (me_var 14))))))))))
  exact ⟨_, q.ps, q.sn⟩

/-! ### _law_worth -/
abbrev st_law_worth : Stmt := topS 28
abbrev N_law_worth : List Str := ["state", "way"]
theorem sc_law_worth : FnScope N_law_worth ["state"] (defScope st_law_worth) := ⟨rfl, rfl, rfl, by decide +kernel, rfl, by decide +kernel, by decide +kernel⟩
theorem ok_law_worth {P : Program} {w : World} {K : PySem.W.Frag} {mg : Str → Option Value} {base : Heap} {k : Nat} {fa : Addr} {fd : FuncData} (m : Mo K w mg) (D : Dfn K "_law_worth" st_law_worth ["state"] [] fa fd) (c_law_take : Cal P w K mg base (L2.CX P w) k "_law_take" 2 [] F_law_take) : FnG P w K mg base (L2.CX P w) (k + 1) fa fd ["state"] (spM K 1 F_law_worth) :=
  dfn_ok (N := N_law_worth) (own := [0]) (body := B_law_worth) D sc_law_worth fun cdv A outer s H vs E hr hg => by
  have tk : Takes (cxOf (L2.CX P w) P w K mg base N_law_worth "_law_worth" (defScope st_law_worth) fa cdv A outer s H E) (fun c d _ H' => E c d H') := tk_cx
  have px := passX tk
  have q : MSs (cxOf (L2.CX P w) P w K mg base N_law_worth "_law_worth" (defScope st_law_worth) fa cdv A outer s H E) ⟨K, [0], vs, fun c d _ H' => E c d H'⟩ (defBody st_law_worth) _ (B_law_worth) := (mss_cons (ms_set 1 sc_law_worth.nd (me_call c_law_take hr hg px (mas_cons ((me_var 0)).opd (mas_cons (me_int).opd mas_nil))))
    (mss_cons (ms_if (mt_cmp (g := gLt) (op_lt) ops_gI ((me_var 1)).opd (me_int).opd) (mss_one (ms_ret (me_ix (op_ixK rfl) ops_ix ((me_lst (j := 0) (mds_cons (me_non).frz (mds_cons (me_int).frz mds_nil)))).opd ((me_var 1)).opd))) mss_nil)
    (mss_cons (ms_if (mt_cmp (g := gLt) (op_lt) ops_gI ((me_var 1)).opd (me_int).opd) (mss_one (ms_ret (me_op (op_subX) ops_sub ((me_call c_law_take hr hg px (mas_cons ((me_var 0)).opd (mas_cons (me_int).opd mas_nil)))).opd (me_int).opd))) mss_nil)
    (mss_one (ms_ret (me_ix (op_ixK rfl) ops_ix ((me_lst (j := 0) (mds_cons ((me_op (op_subX) ops_sub ((me_call c_law_take hr hg px (mas_cons ((me_var 0)).opd (mas_cons ((me_op (op_addX rfl) ops_add ((me_op (op_mulXX) ops_mul (me_int).opd ((me_op (op_pow) ops_pow (me_int).opd (me_int).opd)).opd)).opd (me_int).opd)).opd mas_nil)))).opd ((me_op (op_pow) ops_pow (me_int).opd (me_int).opd)).opd)).frz (mds_cons ((me_op (op_subX) ops_sub ((me_op (op_pow) ops_pow (me_int).opd (me_int).opd)).opd ((me_op (op_mulXX) ops_mul ((me_op (op_mulXX) ops_mul (me_int).opd ((me_op (op_pow) ops_pow (me_int).opd (me_int).opd)).opd)).opd ((me_call c_law_take hr hg px (mas_cons ((me_var 0)).opd (mas_cons (me_int).opd mas_nil)))).opd)).opd)).frz mds_nil)))).opd ((me_op (op_subX) ops_sub ((me_var 1)).opd (me_int).opd)).opd))))))
  exact ⟨_, q.ps, q.sn⟩

/-! ### _law_tables -/
abbrev st_law_tables : Stmt := topS 29
abbrev N_law_tables : List Str := ["state", "many", "wide", "found", "name", "columns", "column"]
theorem sc_law_tables : FnScope N_law_tables ["state", "many", "wide"] (defScope st_law_tables) := ⟨rfl, rfl, rfl, by decide +kernel, rfl, by decide +kernel, by decide +kernel⟩
theorem ok_law_tables {P : Program} {w : World} {K : PySem.W.Frag} {mg : Str → Option Value} {base : Heap} {k : Nat} {fa : Addr} {fd : FuncData} (m : Mo K w mg) (D : Dfn K "_law_tables" st_law_tables ["state", "many", "wide"] [] fa fd) (c_law_names : Cal P w K mg base (L2.CX P w) k "_law_names" 2 [] F_law_names) (c_law_take : Cal P w K mg base (L2.CX P w) k "_law_take" 2 [] F_law_take) (c_law_worth : Cal P w K mg base (L2.CX P w) k "_law_worth" 1 [] F_law_worth) : FnG P w K mg base (L2.CX P w) (k + 1) fa fd ["state", "many", "wide"] (spM K 3 F_law_tables) :=
  dfn_ok (N := N_law_tables) (own := [0, 1, 2]) (body := B_law_tables) D sc_law_tables fun cdv A outer s H vs E hr hg => by
  have tk : Takes (cxOf (L2.CX P w) P w K mg base N_law_tables "_law_tables" (defScope st_law_tables) fa cdv A outer s H E) (fun c d _ H' => E c d H') := tk_cx
  have px := passX tk
  have q : MSs (cxOf (L2.CX P w) P w K mg base N_law_tables "_law_tables" (defScope st_law_tables) fa cdv A outer s H E) ⟨K, [0, 1, 2], vs, fun c d _ H' => E c d H'⟩ (defBody st_law_tables) _ (B_law_tables) := (mss_cons (ms_set 3 sc_law_tables.nd (me_lst (j := 0) mds_nil))
    (mss_cons (ms_for [4] (passes_of rfl) (mi_any ((me_call c_law_names hr hg px (mas_cons ((me_var 0)).opd (mas_cons ((me_var 1)).opd mas_nil)))).frz) (mg_nm 4 sc_law_tables.nd) (mss_cons (ms_set 5 sc_law_tables.nd (me_lst (j := 0) mds_nil))
    (mss_cons (ms_for [6] (passes_of rfl) (mi_any ((me_call c_law_names hr hg px (mas_cons ((me_var 0)).opd (mas_cons ((me_op (op_addX rfl) ops_add (me_int).opd ((me_call c_law_take hr hg px (mas_cons ((me_var 0)).opd (mas_cons ((me_var 2)).opd mas_nil)))).opd)).opd mas_nil)))).frz) (mg_nm 6 sc_law_tables.nd) (mss_one (ms_append 5 (mds_cons ((me_tup (mds_cons ((me_var 6)).frz (mds_cons ((me_ifE (mt_cmp (g := gNe) (op_neK rfl hr) ops_ne ((me_var 5)).opd ((me_lst (j := 0) mds_nil)).opd) (me_call c_law_worth hr hg px (mas_cons ((me_var 0)).opd mas_nil)) me_non)).frz mds_nil)))).frz mds_nil) ((me_tup (mds_cons ((me_var 6)).frz (mds_cons ((me_ifE (mt_cmp (g := gNe) (op_neK rfl hr) ops_ne ((me_var 5)).opd ((me_lst (j := 0) mds_nil)).opd) (me_call c_law_worth hr hg px (mas_cons ((me_var 0)).opd mas_nil)) me_non)).frz mds_nil)))).frz)))
    (mss_one (ms_append 3 (mds_cons ((me_tup (mds_cons ((me_var 4)).frz (mds_cons ((me_callTy (cr_tuple rfl) cs_tuple m.b_tuple (mas_cons ((me_var 5)).opd mas_nil) PyProof.Rows.boot_tuple)).frz mds_nil)))).frz mds_nil) ((me_tup (mds_cons ((me_var 4)).frz (mds_cons ((me_callTy (cr_tuple rfl) cs_tuple m.b_tuple (mas_cons ((me_var 5)).opd mas_nil) PyProof.Rows.boot_tuple)).frz mds_nil)))).frz)))))
    (mss_one (ms_ret (me_callTy (cr_tuple rfl) cs_tuple m.b_tuple (mas_cons ((me_var 3)).opd mas_nil) PyProof.Rows.boot_tuple)))))
  exact ⟨_, q.ps, q.sn⟩

/-! ### _law_near -/
abbrev st_law_near : Stmt := topS 31
abbrev N_law_near : List Str := ["state", "low", "many", "way"]
theorem sc_law_near : FnScope N_law_near ["state", "low", "many"] (defScope st_law_near) := ⟨rfl, rfl, rfl, by decide +kernel, rfl, by decide +kernel, by decide +kernel⟩
theorem ok_law_near {P : Program} {w : World} {K : PySem.W.Frag} {mg : Str → Option Value} {base : Heap} {k : Nat} {fa : Addr} {fd : FuncData} (m : Mo K w mg) (D : Dfn K "_law_near" st_law_near ["state", "low", "many"] [] fa fd) (c_law_worth : Cal P w K mg base (L2.CX P w) k "_law_worth" 1 [] F_law_worth) (c_law_take : Cal P w K mg base (L2.CX P w) k "_law_take" 2 [] F_law_take) : FnG P w K mg base (L2.CX P w) (k + 1) fa fd ["state", "low", "many"] (spM K 3 F_law_near) :=
  dfn_ok (N := N_law_near) (own := [0, 1, 2]) (body := B_law_near) D sc_law_near fun cdv A outer s H vs E hr hg => by
  have tk : Takes (cxOf (L2.CX P w) P w K mg base N_law_near "_law_near" (defScope st_law_near) fa cdv A outer s H E) (fun c d _ H' => E c d H') := tk_cx
  have px := passX tk
  have q : MSs (cxOf (L2.CX P w) P w K mg base N_law_near "_law_near" (defScope st_law_near) fa cdv A outer s H E) ⟨K, [0, 1, 2], vs, fun c d _ H' => E c d H'⟩ (defBody st_law_near) _ (B_law_near) := (mss_cons (ms_set 3 sc_law_near.nd (me_call c_law_take hr hg px (mas_cons ((me_var 0)).opd (mas_cons (me_int).opd mas_nil))))
    (mss_one (ms_ret (me_ifE (mt_cmp (g := gEq) (op_eqK rfl hr) ops_eq ((me_var 3)).opd (me_int).opd) (me_call c_law_worth hr hg px (mas_cons ((me_var 0)).opd mas_nil)) (me_ix (op_ixK rfl) ops_ix ((me_lst (j := 0) (mds_cons ((me_op (op_addX rfl) ops_add ((me_var 1)).opd ((me_call c_law_take hr hg px (mas_cons ((me_var 0)).opd (mas_cons ((me_op (op_mulXX) ops_mul (me_int).opd ((me_var 2)).opd)).opd mas_nil)))).opd)).frz (mds_cons (me_non).frz mds_nil)))).opd ((me_callTy (call_int1) cs_int m.b_int (mas_cons ((me_cmp (g := gEq) (op_eqK rfl hr) ops_eq ((me_var 3)).opd (me_int).opd)).opd mas_nil) PyProof.Rows.boot_int)).opd)))))
  exact ⟨_, q.ps, q.sn⟩

/-! ### _law_content -/
abbrev st_law_content : Stmt := topS 30
abbrev N_law_content : List Str := ["state", "tables", "many", "content", "low", "table", "columns", "rows", "key", "others", "column"]
theorem sc_law_content : FnScope N_law_content ["state", "tables", "many"] (defScope st_law_content) := ⟨rfl, rfl, rfl, by decide +kernel, rfl, by decide +kernel, by decide +kernel⟩
theorem ok_law_content {P : Program} {w : World} {K : PySem.W.Frag} {mg : Str → Option Value} {base : Heap} {k : Nat} {fa : Addr} {fd : FuncData} (m : Mo K w mg) (D : Dfn K "_law_content" st_law_content ["state", "tables", "many"] [] fa fd) (c_law_take : Cal P w K mg base (L2.CX P w) k "_law_take" 2 [] F_law_take) (c_law_near : Cal P w K mg base (L2.CX P w) k "_law_near" 3 [] F_law_near) : FnG P w K mg base (L2.CX P w) (k + 1) fa fd ["state", "tables", "many"] (spM K 3 F_law_content) :=
  dfn_ok (N := N_law_content) (own := [0, 1, 2]) (body := B_law_content) D sc_law_content fun cdv A outer s H vs E hr hg => by
  have tk : Takes (cxOf (L2.CX P w) P w K mg base N_law_content "_law_content" (defScope st_law_content) fa cdv A outer s H E) (fun c d _ H' => E c d H') := tk_cx
  have px := passX tk
  have q : MSs (cxOf (L2.CX P w) P w K mg base N_law_content "_law_content" (defScope st_law_content) fa cdv A outer s H E) ⟨K, [0, 1, 2], vs, fun c d _ H' => E c d H'⟩ (defBody st_law_content) _ (B_law_content) := (mss_cons (ms_parT (mrs_cons (me_lst (j := 0) mds_nil) (mrs_cons (me_ix (op_ixK rfl) ops_ix ((me_lst (j := 0) (mds_cons (me_int).frz (mds_cons (me_int).frz (mds_cons ((me_un un_neg uns_neg (me_int).opd)).frz (mds_cons ((me_op (op_pow) ops_pow (me_int).opd (me_int).opd)).frz mds_nil)))))).opd ((me_call c_law_take hr hg px (mas_cons ((me_var 0)).opd (mas_cons (me_int).opd mas_nil)))).opd) mrs_nil)) (gns_cons 3 sc_law_content.nd (gns_cons 4 sc_law_content.nd gns_nil)))
    (mss_cons (ms_for [5, 6] (passes_of rfl) (mi_any ((me_var 1)).frz) (mg_tp (mgs_cons (mg_nm 5 sc_law_content.nd) (mgs_cons (mg_nm 6 sc_law_content.nd) mgs_nil))) (mss_cons (ms_set 7 sc_law_content.nd (me_lst (j := 0) mds_nil))
    (mss_cons (ms_for [8] (passes_of rfl) (mi_rng2 m.b_range (mas_cons ((me_var 4)).opd (mas_cons ((me_op (op_addX rfl) ops_add ((me_var 4)).opd ((me_op (op_mulXX) ops_mul (me_int).opd ((me_var 2)).opd)).opd)).opd mas_nil))) (mg_nm 8 sc_law_content.nd) (mss_one (ms_if ((mw_and (mt_cmp (g := gLt) (op_lt) ops_gI ((me_callB (cr_len rfl) cs_len m.b_len (mas_cons ((me_var 7)).opd mas_nil) PySem.boot_len)).opd ((me_var 2)).opd) (mw_and1 (mt_cmp (g := gEq) (op_eqK rfl hr) ops_eq ((me_call c_law_take hr hg px (mas_cons ((me_var 0)).opd (mas_cons (me_int).opd mas_nil)))).opd (me_int).opd)))).toT (mss_cons (ms_setLc 9 [10] (blk_ok (N := N_law_content) (sc := defScope st_law_content) (own := [("column", 10)]) rfl (by decide +kernel)) sc_law_content.nd (mi_any ((me_sl (sl_X rfl) sls_X ((me_var 6)).opd (mpo_some (me_int).opd) mpo_none)).frz) (hv_of rfl) (fun _ _ _ _ _ => (mg_nm 10 sc_law_content.nd)) (fun _ _ _ _ _ => ⟨pts_nil, snd_yes⟩) (fun _ _ _ _ _ => ((me_call c_law_near hr hg passN (mas_cons ((me_var 0)).opd (mas_cons ((me_var 4)).opd (mas_cons ((me_var 2)).opd mas_nil))))).frz))
    (mss_one (ms_append 7 (mds_cons ((me_callTy (cr_tuple rfl) cs_tuple m.b_tuple (mas_cons ((me_op (op_addX rfl) ops_add ((me_lst (j := 0) (mds_cons ((me_var 8)).frz mds_nil))).opd ((me_var 9)).opd)).opd mas_nil) PyProof.Rows.boot_tuple)).frz mds_nil) ((me_callTy (cr_tuple rfl) cs_tuple m.b_tuple (mas_cons ((me_op (op_addX rfl) ops_add ((me_lst (j := 0) (mds_cons ((me_var 8)).frz mds_nil))).opd ((me_var 9)).opd)).opd mas_nil) PyProof.Rows.boot_tuple)).frz))) mss_nil)))
    (mss_one (ms_append 3 (mds_cons ((me_var 7)).frz mds_nil) ((me_var 7)).frz)))))
    (mss_one (ms_ret (me_var 3)))))
  exact ⟨_, q.ps, q.sn⟩

/-! ### _law_deed -/
abbrev st_law_deed : Stmt := topS 32
abbrev N_law_deed : List Str := ["state", "tables", "content", "at", "table", "columns", "keys", "row", "key", "place", "way", "others", "worths", "column", "worth"]
theorem sc_law_deed : FnScope N_law_deed ["state", "tables", "content"] (defScope st_law_deed) := ⟨rfl, rfl, rfl, by decide +kernel, rfl, by decide +kernel, by decide +kernel⟩
theorem ok_law_deed {P : Program} {w : World} {K : PySem.W.Frag} {mg : Str → Option Value} {base : Heap} {k : Nat} {fa : Addr} {fd : FuncData} (m : Mo K w mg) (D : Dfn K "_law_deed" st_law_deed ["state", "tables", "content"] [] fa fd) (c_law_take : Cal P w K mg base (L2.CX P w) k "_law_take" 2 [] F_law_take) (c_law_some : Cal P w K mg base (L2.CX P w) k "_law_some" 2 [] F_law_some) (c_law_near : Cal P w K mg base (L2.CX P w) k "_law_near" 3 [] F_law_near) : FnG P w K mg base (L2.CX P w) (k + 1) fa fd ["state", "tables", "content"] (spM K 3 F_law_deed) :=
  dfn_ok (N := N_law_deed) (own := [0, 1, 2]) (body := B_law_deed) D sc_law_deed fun cdv A outer s H vs E hr hg => by
  have tk : Takes (cxOf (L2.CX P w) P w K mg base N_law_deed "_law_deed" (defScope st_law_deed) fa cdv A outer s H E) (fun c d _ H' => E c d H') := tk_cx
  have px := passX tk
  have q : MSs (cxOf (L2.CX P w) P w K mg base N_law_deed "_law_deed" (defScope st_law_deed) fa cdv A outer s H E) ⟨K, [0, 1, 2], vs, fun c d _ H' => E c d H'⟩ (defBody st_law_deed) _ (B_law_deed) := (mss_cons (ms_set 3 sc_law_deed.nd (me_call c_law_take hr hg px (mas_cons ((me_var 0)).opd (mas_cons ((me_callB (cr_len rfl) cs_len m.b_len (mas_cons ((me_var 1)).opd mas_nil) PySem.boot_len)).opd mas_nil))))
    (mss_cons (ms_unp [4, 5] ((me_ix (op_ixK rfl) ops_ix ((me_var 1)).opd ((me_var 3)).opd)).frz (mg_tp (mgs_cons (mg_nm 4 sc_law_deed.nd) (mgs_cons (mg_nm 5 sc_law_deed.nd) mgs_nil))))
    (mss_cons (ms_setLc 6 [7] (blk_ok (N := N_law_deed) (sc := defScope st_law_deed) (own := [("row", 7)]) rfl (by decide +kernel)) sc_law_deed.nd (mi_any ((me_ix (op_ixK rfl) ops_ix ((me_var 2)).opd ((me_var 3)).opd)).frz) (hv_of rfl) (fun _ _ _ _ _ => (mg_nm 7 sc_law_deed.nd)) (fun _ _ _ _ _ => ⟨pts_nil, snd_yes⟩) (fun _ _ _ _ _ => ((me_ix (op_ixK rfl) ops_ix ((me_var 7)).opd (me_int).opd)).frz))
    (mss_cons (ms_set 8 sc_law_deed.nd (me_ifE ((mw_and (mt_cmp (g := gNe) (op_neK rfl hr) ops_ne ((me_var 6)).opd ((me_lst (j := 0) mds_nil)).opd) (mw_and1 (mt_cmp (g := gGt) (op_gt) ops_gI ((me_call c_law_take hr hg px (mas_cons ((me_var 0)).opd (mas_cons (me_int).opd mas_nil)))).opd (me_int).opd)))).toT (me_call c_law_some hr hg px (mas_cons ((me_var 0)).opd (mas_cons ((me_var 6)).opd mas_nil))) (me_op (op_subX) ops_sub ((me_call c_law_take hr hg px (mas_cons ((me_var 0)).opd (mas_cons (me_int).opd mas_nil)))).opd (me_int).opd)))
    (mss_cons (ms_unp [9, 10] ((me_tup (mds_cons ((me_call c_law_take hr hg px (mas_cons ((me_var 0)).opd (mas_cons ((me_callB (cr_len rfl) cs_len m.b_len (mas_cons ((me_var 5)).opd mas_nil) PySem.boot_len)).opd mas_nil)))).frz (mds_cons ((me_call c_law_take hr hg px (mas_cons ((me_var 0)).opd (mas_cons (me_int).opd mas_nil)))).frz mds_nil)))).frz (mg_tp (mgs_cons (mg_nm 9 sc_law_deed.nd) (mgs_cons (mg_nm 10 sc_law_deed.nd) mgs_nil))))
    (mss_cons (ms_set 11 sc_law_deed.nd (me_op (op_addX rfl) ops_add ((me_lc [7] (blk_ok (N := N_law_deed) (sc := defScope st_law_deed) (own := [("row", 7)]) rfl (by decide +kernel)) sc_law_deed.nd (mi_any ((me_ix (op_ixK rfl) ops_ix ((me_var 2)).opd ((me_var 3)).opd)).frz) (hv_of rfl) (fun _ _ _ _ _ => (mg_nm 7 sc_law_deed.nd)) (fun _ _ _ _ _ => ⟨pts_nil, snd_yes⟩) (fun _ _ _ _ _ => ((me_ix (op_ixK rfl) ops_ix ((me_var 7)).opd ((me_var 9)).opd)).frz))).opd ((me_lst (j := 0) (mds_cons (me_non).frz (mds_cons (me_int).frz mds_nil)))).opd))
    (mss_cons (ms_if (mt_cmp (g := gLt) (op_lt) ops_gI ((me_var 10)).opd (me_int).opd) (mss_cons (ms_setLc 12 [13] (blk_ok (N := N_law_deed) (sc := defScope st_law_deed) (own := [("column", 13)]) rfl (by decide +kernel)) sc_law_deed.nd (mi_any ((me_sl (sl_X rfl) sls_X ((me_var 5)).opd (mpo_some (me_int).opd) mpo_none)).frz) (hv_of rfl) (fun _ _ _ _ _ => (mg_nm 13 sc_law_deed.nd)) (fun _ _ _ _ _ => ⟨pts_nil, snd_yes⟩) (fun _ _ _ _ _ => ((me_call c_law_near hr hg passN (mas_cons ((me_var 0)).opd (mas_cons ((me_var 8)).opd (mas_cons (me_int).opd mas_nil))))).frz))
    (mss_one (ms_ret (me_tup (mds_cons (me_str).frz (mds_cons ((me_var 4)).frz (mds_cons ((me_callTy (cr_tuple rfl) cs_tuple m.b_tuple (mas_cons ((me_op (op_addX rfl) ops_add ((me_lst (j := 0) (mds_cons ((me_op (op_addX rfl) ops_add ((me_var 8)).opd ((me_op (op_mulXX) ops_mul ((me_call c_law_take hr hg px (mas_cons ((me_var 0)).opd (mas_cons (me_int).opd mas_nil)))).opd ((me_call c_law_take hr hg px (mas_cons ((me_var 0)).opd (mas_cons (me_int).opd mas_nil)))).opd)).opd)).frz mds_nil))).opd ((me_var 12)).opd)).opd mas_nil) PyProof.Rows.boot_tuple)).frz mds_nil))))))) mss_nil)
    (mss_cons (ms_if (mt_cmp (g := gLt) (op_lt) ops_gI ((me_var 10)).opd (me_int).opd) (mss_one (ms_ret (me_tup (mds_cons (me_str).frz (mds_cons ((me_var 4)).frz (mds_cons ((me_var 8)).frz mds_nil)))))) mss_nil)
    (mss_cons (ms_if (mt_cmp (g := gLt) (op_lt) ops_gI ((me_var 10)).opd (me_int).opd) (mss_one (ms_ret (me_tup (mds_cons (me_str).frz (mds_cons ((me_var 4)).frz (mds_cons ((me_ix (op_ixK rfl) ops_ix ((me_ix (op_ixK rfl) ops_ix ((me_var 5)).opd ((me_var 9)).opd)).opd (me_int).opd)).frz (mds_cons ((me_call c_law_some hr hg px (mas_cons ((me_var 0)).opd (mas_cons ((me_var 11)).opd mas_nil)))).frz mds_nil))))))) mss_nil)
    (mss_cons (ms_if (mt_cmp (g := gEq) (op_eqK rfl hr) ops_eq ((me_var 10)).opd (me_int).opd) (mss_one (ms_ret (me_tup (mds_cons (me_str).frz (mds_cons ((me_var 4)).frz (mds_cons ((me_ix (op_ixK rfl) ops_ix ((me_ix (op_ixK rfl) ops_ix ((me_var 5)).opd ((me_var 9)).opd)).opd (me_int).opd)).frz (mds_cons ((me_ix (op_ixK rfl) ops_ix ((me_lst (j := 0) (mds_cons (me_int).frz (mds_cons ((me_un un_neg uns_neg (me_int).opd)).frz (mds_cons ((me_op (op_subX) ops_sub ((me_call c_law_take hr hg px (mas_cons ((me_var 0)).opd (mas_cons (me_int).opd mas_nil)))).opd (me_int).opd)).frz (mds_cons (me_int).frz mds_nil)))))).opd ((me_call c_law_take hr hg px (mas_cons ((me_var 0)).opd (mas_cons (me_int).opd mas_nil)))).opd)).frz mds_nil))))))) mss_nil)
    (mss_cons (ms_set 9 sc_law_deed.nd (me_op (op_mulXX) ops_mul ((me_var 9)).opd ((me_callTy (call_int1) cs_int m.b_int (mas_cons ((me_cmp (g := gEq) (op_eqK rfl hr) ops_eq ((me_call c_law_take hr hg px (mas_cons ((me_var 0)).opd (mas_cons (me_int).opd mas_nil)))).opd (me_int).opd)).opd mas_nil) PyProof.Rows.boot_int)).opd))
    (mss_cons (ms_set 14 sc_law_deed.nd (me_ifE (mt_cmp (g := gEq) (op_eqK rfl hr) ops_eq ((me_var 9)).opd (me_int).opd) (me_op (op_subX) ops_sub ((me_op (op_addX rfl) ops_add ((me_var 8)).opd ((me_call c_law_take hr hg px (mas_cons ((me_var 0)).opd (mas_cons (me_int).opd mas_nil)))).opd)).opd (me_int).opd) (me_call c_law_some hr hg px (mas_cons ((me_var 0)).opd (mas_cons ((me_op (op_addX rfl) ops_add ((me_var 11)).opd ((me_lst (j := 0) (mds_cons ((me_call c_law_near hr hg px (mas_cons ((me_var 0)).opd (mas_cons ((me_var 8)).opd (mas_cons (me_int).opd mas_nil))))).frz mds_nil))).opd)).opd mas_nil)))))
    (mss_one (ms_ret (me_tup (mds_cons (me_str).frz (mds_cons ((me_var 4)).frz (mds_cons ((me_var 8)).frz (mds_cons ((me_ix (op_ixK rfl) ops_ix ((me_ix (op_ixK rfl) ops_ix ((me_var 5)).opd ((me_var 9)).opd)).opd (me_int).opd)).frz (mds_cons ((me_var 14)).frz mds_nil))))))))))))))))))))
  exact ⟨_, q.ps, q.sn⟩

/-! ### _law_copied -/
abbrev st_law_copiedO : Stmt := topS 33
abbrev N_law_copiedO : List Str := ["content", "rows"]
theorem sc_law_copiedO : FnScope N_law_copiedO ["content"] (defScope st_law_copiedO) := ⟨rfl, rfl, rfl, by decide +kernel, rfl, by decide +kernel, by decide +kernel⟩
def B_law_copiedO : Sm := (sRet (mLcO 0 (.nm 1) [1] mYes (fE (oE (mCallB gList (msCons (oE (mVar 1)) msNil))))))
def F_law_copiedO : M RV := fnF [0] 2 (B_law_copiedO)
theorem ok_law_copiedO {P : Program} {w : World} {K : PySem.W.Frag} {mg : Str → Option Value} {base : Heap} {k : Nat} {fa : Addr} {fd : FuncData} (m : Mo K w mg) (D : Dfn K "_law_copied" st_law_copiedO ["content"] [] fa fd)  : FnG P w K mg base (L2.CX P w) (k + 1) fa fd ["content"] (spM K 1 F_law_copiedO) :=
  dfn_ok (N := N_law_copiedO) (own := [0]) (body := B_law_copiedO) D sc_law_copiedO fun cdv A outer s H vs E hr hg => by
  have tk : Takes (cxOf (L2.CX P w) P w K mg base N_law_copiedO "_law_copied" (defScope st_law_copiedO) fa cdv A outer s H E) (fun c d _ H' => E c d H') := tk_cx
  have px := passX tk
  have q : MSs (cxOf (L2.CX P w) P w K mg base N_law_copiedO "_law_copied" (defScope st_law_copiedO) fa cdv A outer s H E) ⟨K, [0], vs, fun c d _ H' => E c d H'⟩ (defBody st_law_copiedO) _ (B_law_copiedO) := (mss_one (ms_ret (me_lcO (X := (cxOf (L2.CX P w) P w K mg base N_law_copiedO "_law_copied" (defScope st_law_copiedO) fa cdv A outer s H E)) (C := ⟨K, [0], vs, fun c d _ H' => E c d H'⟩) [1] 0 (blk_ok (N := N_law_copiedO) (sc := defScope st_law_copiedO) (own := [("rows", 1)]) rfl (by decide +kernel)) sc_law_copiedO.nd (hv_of rfl) (fun _ _ _ _ _ => (mg_nm 1 sc_law_copiedO.nd)) (fun _ _ _ _ _ => ⟨pts_nil, snd_yes⟩) (fun _ _ _ _ _ => ((me_callTy (cr_list rfl) cs_list m.b_list (mas_cons ((me_var 1)).opd mas_nil) PyProof.Rows.boot_list)).frz))))
  exact ⟨_, q.ps, q.sn⟩

/-! ### _law_same -/
abbrev st_law_same : Stmt := topS 34
abbrev N_law_same : List Str := ["found", "due", "one", "other"]
theorem sc_law_same : FnScope N_law_same ["found", "due"] (defScope st_law_same) := ⟨rfl, rfl, rfl, by decide +kernel, rfl, by decide +kernel, by decide +kernel⟩
def B_law_same (G : M RV) : Sm := (sSeq (sIf (mTru (oE (mIsi2 "list" "tuple" (oE (mVar 1))))) (sSeq (sIf (mOr (mBl (mOp (bo gNe) (oE (mIsi "list" (oE (mVar 0)))) (oE (mIsi "list" (oE (mVar 1)))))) (mBl (mOp (bo gNe) (oE (mIsi "tuple" (oE (mVar 0)))) (oE (mIsi "tuple" (oE (mVar 1))))))) (sRet (mC (.bool false))) sNext)
    (sRet (mAndV (oE (mOp (bo gEq) (oE (mCallB gLen (msCons (oE (mVar 0)) msNil))) (oE (mCallB gLen (msCons (oE (mVar 1)) msNil))))) (mCallB gAll (msCons (oE (mLc (mZip (dsCons (fE (oE (mVar 0))) (dsCons (fE (oE (mVar 1))) dsNil))) (.tp [(.nm 2), (.nm 3)]) [2, 3] mYes (fE (oE (mCall 2 G (msCons (oE (mVar 2)) (msCons (oE (mVar 3)) msNil))))))) msNil))))) sNext)
    (sSeq (sIf (mBl (mOp (bo gIsN) (oE (mVar 1)) (oE (mC .none)))) (sRet (mOp (bo gIsN) (oE (mVar 0)) (oE (mC .none)))) sNext)
    (sSeq (sIf (mTru (oE (mIsi "bool" (oE (mVar 1))))) (sRet (mAndV (oE (mIsi "bool" (oE (mVar 0)))) (mOp (bo gEq) (oE (mVar 0)) (oE (mVar 1))))) sNext)
    (sSeq (sIf (mTru (oE (mIsi "str" (oE (mVar 1))))) (sRet (mAndV (oE (mIsi "str" (oE (mVar 0)))) (mOp (bo gEq) (oE (mVar 0)) (oE (mVar 1))))) sNext)
    (sRet (mAndV (oE (mIsi "int" (oE (mVar 0)))) (mAndV (oE (mNotV (oE (mIsi "bool" (oE (mVar 0)))))) (mOp (bo gEq) (oE (mVar 0)) (oE (mVar 1))))))))))
def F_law_same : Nat → M RV
  | 0 => fun _ => .bad
  | n + 1 => fnF [0, 1] 4 (B_law_same (F_law_same n))
theorem ok_law_same {P : Program} {w : World} {K : PySem.W.Frag} {mg : Str → Option Value} {base : Heap} {k : Nat} {fa : Addr} {fd : FuncData} (m : Mo K w mg) (hm : mg "_law_same" = some (.ref fa)) (D : Dfn K "_law_same" st_law_same ["found", "due"] [] fa fd)  : ∀ n : Nat, FnG P w K mg base (L2.CX P w) (k + n) fa fd ["found", "due"] (spM K 2 (F_law_same n))
  | 0 => fnG_bad (ps := ["found", "due"])
  | n + 1 => by
    have c_law_same : Cal P w K mg base (L2.CX P w) (k + n) "_law_same" 2 [] (F_law_same n) := (ok_law_same m hm D  n).cal D hm
    exact dfn_ok (N := N_law_same) (own := [0, 1]) (body := B_law_same (F_law_same n)) D sc_law_same fun cdv A outer s H vs E hr hg => by
      have tk : Takes (cxOf (L2.CX P w) P w K mg base N_law_same "_law_same" (defScope st_law_same) fa cdv A outer s H E) (fun c d _ H' => E c d H') := tk_cx
      have px := passX tk
      have q : MSs (cxOf (L2.CX P w) P w K mg base N_law_same "_law_same" (defScope st_law_same) fa cdv A outer s H E) ⟨K, [0, 1], vs, fun c d _ H' => E c d H'⟩ (defBody st_law_same) _ (B_law_same (F_law_same n)) := (mss_cons (ms_if (mt_tru ((me_isi2 "list" "tuple" ((me_var 1)).opd m.b_isinstance m.b_list m.b_tuple)).opd) (mss_cons (ms_if ((mw_or (mt_cmp (g := gNe) (op_neK rfl hr) ops_ne ((me_isi "list" ((me_var 0)).opd m.b_isinstance m.b_list)).opd ((me_isi "list" ((me_var 1)).opd m.b_isinstance m.b_list)).opd) (mw_or1 (mt_cmp (g := gNe) (op_neK rfl hr) ops_ne ((me_isi "tuple" ((me_var 0)).opd m.b_isinstance m.b_tuple)).opd ((me_isi "tuple" ((me_var 1)).opd m.b_isinstance m.b_tuple)).opd)))).toT (mss_one (ms_ret me_bl)) mss_nil)
    (mss_one (ms_ret (me_and ((me_cmp (g := gEq) (op_eqK rfl hr) ops_eq ((me_callB (cr_len rfl) cs_len m.b_len (mas_cons ((me_var 0)).opd mas_nil) PySem.boot_len)).opd ((me_callB (cr_len rfl) cs_len m.b_len (mas_cons ((me_var 1)).opd mas_nil) PySem.boot_len)).opd)).opd (me_one (me_callB (cr_allK rfl rfl) cs_all m.b_all (mas_cons ((me_lc [2, 3] (blk_ok (N := N_law_same) (sc := defScope st_law_same) (own := [("one", 2), ("other", 3)]) rfl (by decide +kernel)) sc_law_same.nd (mi_zip m.b_zip (mds_cons ((me_var 0)).frz (mds_cons ((me_var 1)).frz mds_nil))) (hv_of rfl) (fun _ _ _ _ _ => (mg_tp (mgs_cons (mg_nm 2 sc_law_same.nd) (mgs_cons (mg_nm 3 sc_law_same.nd) mgs_nil)))) (fun _ _ _ _ _ => ⟨pts_nil, snd_yes⟩) (fun _ _ _ _ _ => ((me_call c_law_same hr hg passN (mas_cons ((me_var 2)).opd (mas_cons ((me_var 3)).opd mas_nil)))).frz))).opd mas_nil) PyProof.Rows.boot_all)))))) mss_nil)
    (mss_cons (ms_if (mt_cmp (g := gIsN) (op_isN) ops_isN ((me_var 1)).opd (me_non).opd) (mss_one (ms_ret (me_cmp (g := gIsN) (op_isN) ops_isN ((me_var 0)).opd (me_non).opd))) mss_nil)
    (mss_cons (ms_if (mt_tru ((me_isi "bool" ((me_var 1)).opd m.b_isinstance m.b_bool)).opd) (mss_one (ms_ret (me_and ((me_isi "bool" ((me_var 0)).opd m.b_isinstance m.b_bool)).opd (me_one (me_cmp (g := gEq) (op_eqK rfl hr) ops_eq ((me_var 0)).opd ((me_var 1)).opd))))) mss_nil)
    (mss_cons (ms_if (mt_tru ((me_isi "str" ((me_var 1)).opd m.b_isinstance m.b_str)).opd) (mss_one (ms_ret (me_and ((me_isi "str" ((me_var 0)).opd m.b_isinstance m.b_str)).opd (me_one (me_cmp (g := gEq) (op_eqK rfl hr) ops_eq ((me_var 0)).opd ((me_var 1)).opd))))) mss_nil)
    (mss_one (ms_ret (me_and ((me_isi "int" ((me_var 0)).opd m.b_isinstance m.b_int)).opd (me_and ((me_not ((me_isi "bool" ((me_var 0)).opd m.b_isinstance m.b_bool)).opd)).opd (me_one (me_cmp (g := gEq) (op_eqK rfl hr) ops_eq ((me_var 0)).opd ((me_var 1)).opd))))))))))
      exact ⟨_, q.ps, q.sn⟩

/-! ### _law_due -/
abbrev st_law_due : Stmt := topS 35
abbrev N_law_due : List Str := ["tables", "content", "deed", "at", "table", "rows", "names", "column", "keys", "row", "taken", "worth", "place", "cells", "made"]
theorem sc_law_due : FnScope N_law_due ["tables", "content", "deed"] (defScope st_law_due) := ⟨rfl, rfl, rfl, by decide +kernel, rfl, by decide +kernel, by decide +kernel⟩
def B_law_due : Sm := (sSeq (sSet 3 (mBML gIndex (oE (mLc (mIt (fE (oE (mVar 0)))) (.nm 4) [4] mYes (fE (oE (mOp gIx (oE (mVar 4)) (oE (mC (.int 0)))))))) (msCons (oE (mOp gIx (oE (mVar 2)) (oE (mC (.int 1))))) msNil)))
    (sSeq (sPar [5, 6] (msCons (mOp gIx (oE (mVar 1)) (oE (mVar 3))) (msCons (mLc (mIt (fE (oE (mOp gIx (oE (mOp gIx (oE (mVar 0)) (oE (mVar 3)))) (oE (mC (.int 1))))))) (.nm 7) [7] mYes (fE (oE (mOp gIx (oE (mVar 7)) (oE (mC (.int 0))))))) msNil)))
    (sSeq (sPar [4, 8] (msCons (mOp gIx (oE (mVar 2)) (oE (mC (.int 1)))) (msCons (mLc (mIt (fE (oE (mOp gIx (oE (mVar 1)) (oE (mVar 3)))))) (.nm 9) [9] mYes (fE (oE (mOp gIx (oE (mVar 9)) (oE (mC (.int 0))))))) msNil)))
    (sSeq (sIf (mBl (mOp (bo gEq) (oE (mOp gIx (oE (mVar 2)) (oE (mC (.int 0))))) (oE (mC (.str "put"))))) (sSeq (sSet 10 (mOp (bo gIn) (oE (mOp gIx (oE (mOp gIx (oE (mVar 2)) (oE (mC (.int 2))))) (oE (mC (.int 0))))) (oE (mVar 8))))
    (sRet (mIfE (mTru (oE (mVar 10))) (mTup (dsCons (fE (oE (mC (.str "taken")))) (dsCons (fE (oE (mVar 4))) (dsCons (fE (oE (mOp gIx (oE (mOp gIx (oE (mVar 2)) (oE (mC (.int 2))))) (oE (mC (.int 0)))))) dsNil)))) (mTup (dsCons (fE (oE (mLst dsNil))) (dsCons (fE (oE (mLst dsNil))) (dsCons (fE (oE (mLst (dsCons (fE (oE (mTup (dsCons (fE (oE (mVar 4))) (dsCons (fE (oE (mOp gIx (oE (mVar 2)) (oE (mC (.int 2)))))) dsNil))))) dsNil)))) dsNil))))))) sNext)
    (sSeq (sIf (mAnd (mBl (mOp (bo gIn) (oE (mOp gIx (oE (mVar 2)) (oE (mC (.int 0))))) (oE (mTup (dsCons (fE (oE (mC (.str "drop")))) (dsCons (fE (oE (mC (.str "set")))) dsNil)))))) (mBl (mOp (bo gNotIn) (oE (mOp gIx (oE (mVar 2)) (oE (mC (.int 2))))) (oE (mVar 8))))) (sRet (mTup (dsCons (fE (oE (mC (.str "norow")))) (dsCons (fE (oE (mVar 4))) (dsCons (fE (oE (mOp gIx (oE (mVar 2)) (oE (mC (.int 2)))))) dsNil))))) sNext)
    (sSeq (sIf (mBl (mOp (bo gEq) (oE (mOp gIx (oE (mVar 2)) (oE (mC (.int 0))))) (oE (mC (.str "drop"))))) (sRet (mTup (dsCons (fE (oE (mLst (dsCons (fE (oE (mTup (dsCons (fE (oE (mVar 4))) (dsCons (fE (oE (mOp gIx (oE (mVar 2)) (oE (mC (.int 2)))))) dsNil))))) dsNil)))) (dsCons (fE (oE (mLst dsNil))) (dsCons (fE (oE (mLst dsNil))) dsNil))))) sNext)
    (sSeq (sUnp (fE (oE (mTup (dsCons (fE (oE (mOp gIx (oE (mVar 2)) (oE (mUn gNeg (oE (mC (.int 2)))))))) (dsCons (fE (oE (mOp gIx (oE (mVar 2)) (oE (mUn gNeg (oE (mC (.int 1)))))))) dsNil))))) (.tp [(.nm 7), (.nm 11)]))
    (sSeq (sSet 12 (mBML gIndex (oE (mVar 6)) (msCons (oE (mVar 7)) msNil)))
    (sSeq (sIf (mBl (mOp (bo gEq) (oE (mOp gIx (oE (mVar 2)) (oE (mC (.int 0))))) (oE (mC (.str "sweep"))))) (sRet (mTup (dsCons (fE (oE (mLc (mIt (fE (oE (mVar 5)))) (.nm 9) [9] (mBl (mOp (bo gEq) (oE (mOp gIx (oE (mVar 9)) (oE (mVar 12)))) (oE (mVar 11)))) (fE (oE (mTup (dsCons (fE (oE (mVar 4))) (dsCons (fE (oE (mOp gIx (oE (mVar 9)) (oE (mC (.int 0)))))) dsNil)))))))) (dsCons (fE (oE (mLst dsNil))) (dsCons (fE (oE (mLst dsNil))) dsNil))))) sNext)
    (sSeq (sSet 13 (mLst dsNil))
    (sSeq (sFor (mIt (fE (oE (mVar 5)))) (.nm 9) (sSeq (sSet 14 (mOp gIx (oE (mVar 9)) (oE (mVar 12))))
    (sSeq (sIf (mAnd (mBl (mOp (bo gEq) (oE (mOp gIx (oE (mVar 2)) (oE (mC (.int 0))))) (oE (mC (.str "shift"))))) (mBl (mOp (bo gNotN) (oE (mVar 14)) (oE (mC .none))))) (sSet 14 (mOp gAdd (oE (mVar 14)) (oE (mVar 11)))) sNext)
    (sSeq (sIf (mAnd (mBl (mOp (bo gEq) (oE (mOp gIx (oE (mVar 2)) (oE (mC (.int 0))))) (oE (mC (.str "set"))))) (mBl (mOp (bo gEq) (oE (mOp gIx (oE (mVar 9)) (oE (mC (.int 0))))) (oE (mOp gIx (oE (mVar 2)) (oE (mC (.int 2)))))))) (sSet 14 (mVar 11)) sNext)
    (sIf (mBl (mOp (bo gNe) (oE (mVar 14)) (oE (mOp gIx (oE (mVar 9)) (oE (mVar 12)))))) (sAppend 13 (fE (oE (mTup (dsCons (fE (oE (mVar 4))) (dsCons (fE (oE (mOp gIx (oE (mVar 9)) (oE (mC (.int 0)))))) (dsCons (fE (oE (mVar 7))) (dsCons (fE (oE (mVar 14))) dsNil)))))))) sNext)))))
    (sRet (mTup (dsCons (fE (oE (mLst dsNil))) (dsCons (fE (oE (mVar 13))) (dsCons (fE (oE (mLst dsNil))) dsNil))))))))))))))))
def F_law_due : M RV := fnF [0, 1, 2] 15 (B_law_due)
theorem ok_law_due {P : Program} {w : World} {K : PySem.W.Frag} {mg : Str → Option Value} {base : Heap} {k : Nat} {fa : Addr} {fd : FuncData} (m : Mo K w mg) (D : Dfn K "_law_due" st_law_due ["tables", "content", "deed"] [] fa fd)  : FnG P w K mg base (L2.CX P w) (k + 1) fa fd ["tables", "content", "deed"] (spM K 3 F_law_due) :=
  dfn_ok (N := N_law_due) (own := [0, 1, 2]) (body := B_law_due) D sc_law_due fun cdv A outer s H vs E hr hg => by
  have tk : Takes (cxOf (L2.CX P w) P w K mg base N_law_due "_law_due" (defScope st_law_due) fa cdv A outer s H E) (fun c d _ H' => E c d H') := tk_cx
  have px := passX tk
  have q : MSs (cxOf (L2.CX P w) P w K mg base N_law_due "_law_due" (defScope st_law_due) fa cdv A outer s H E) ⟨K, [0, 1, 2], vs, fun c d _ H' => E c d H'⟩ (defBody st_law_due) _ (B_law_due) := (mss_cons (ms_set 3 sc_law_due.nd (me_index ((me_lc [4] (blk_ok (N := N_law_due) (sc := defScope st_law_due) (own := [("table", 4)]) rfl (by decide +kernel)) sc_law_due.nd (mi_any ((me_var 0)).frz) (hv_of rfl) (fun _ _ _ _ _ => (mg_nm 4 sc_law_due.nd)) (fun _ _ _ _ _ => ⟨pts_nil, snd_yes⟩) (fun _ _ _ _ _ => ((me_ix (op_ixK rfl) ops_ix ((me_var 4)).opd (me_int).opd)).frz))).opd (mas_cons ((me_ix (op_ixK rfl) ops_ix ((me_var 2)).opd (me_int).opd)).opd mas_nil)))
    (mss_cons (ms_par2 5 6 sc_law_due.nd (mrs_cons (me_ix (op_ixK rfl) ops_ix ((me_var 1)).opd ((me_var 3)).opd) (mrs_cons (me_lc [7] (blk_ok (N := N_law_due) (sc := defScope st_law_due) (own := [("column", 7)]) rfl (by decide +kernel)) sc_law_due.nd (mi_any ((me_ix (op_ixK rfl) ops_ix ((me_ix (op_ixK rfl) ops_ix ((me_var 0)).opd ((me_var 3)).opd)).opd (me_int).opd)).frz) (hv_of rfl) (fun _ _ _ _ _ => (mg_nm 7 sc_law_due.nd)) (fun _ _ _ _ _ => ⟨pts_nil, snd_yes⟩) (fun _ _ _ _ _ => ((me_ix (op_ixK rfl) ops_ix ((me_var 7)).opd (me_int).opd)).frz)) mrs_nil)))
    (mss_cons (ms_parT (mrs_cons (me_ix (op_ixK rfl) ops_ix ((me_var 2)).opd (me_int).opd) (mrs_cons (me_lc [9] (blk_ok (N := N_law_due) (sc := defScope st_law_due) (own := [("row", 9)]) rfl (by decide +kernel)) sc_law_due.nd (mi_any ((me_ix (op_ixK rfl) ops_ix ((me_var 1)).opd ((me_var 3)).opd)).frz) (hv_of rfl) (fun _ _ _ _ _ => (mg_nm 9 sc_law_due.nd)) (fun _ _ _ _ _ => ⟨pts_nil, snd_yes⟩) (fun _ _ _ _ _ => ((me_ix (op_ixK rfl) ops_ix ((me_var 9)).opd (me_int).opd)).frz)) mrs_nil)) (gns_cons 4 sc_law_due.nd (gns_cons 8 sc_law_due.nd gns_nil)))
    (mss_cons (ms_if (mt_cmp (g := gEq) (op_eqK rfl hr) ops_eq ((me_ix (op_ixK rfl) ops_ix ((me_var 2)).opd (me_int).opd)).opd (me_str).opd) (mss_cons (ms_set 10 sc_law_due.nd (me_cmp (g := gIn) (op_inX rfl hr) ops_in ((me_ix (op_ixK rfl) ops_ix ((me_ix (op_ixK rfl) ops_ix ((me_var 2)).opd (me_int).opd)).opd (me_int).opd)).opd ((me_var 8)).opd))
    (mss_one (ms_ret (me_ifE (mt_tru ((me_var 10)).opd) (me_tup (mds_cons (me_str).frz (mds_cons ((me_var 4)).frz (mds_cons ((me_ix (op_ixK rfl) ops_ix ((me_ix (op_ixK rfl) ops_ix ((me_var 2)).opd (me_int).opd)).opd (me_int).opd)).frz mds_nil)))) (me_tup (mds_cons ((me_lst (j := 0) mds_nil)).frz (mds_cons ((me_lst (j := 0) mds_nil)).frz (mds_cons ((me_lst (j := 0) (mds_cons ((me_tup (mds_cons ((me_var 4)).frz (mds_cons ((me_ix (op_ixK rfl) ops_ix ((me_var 2)).opd (me_int).opd)).frz mds_nil)))).frz mds_nil))).frz mds_nil)))))))) mss_nil)
    (mss_cons (ms_if ((mw_and (mt_cmp (g := gIn) (op_inX rfl hr) ops_in ((me_ix (op_ixK rfl) ops_ix ((me_var 2)).opd (me_int).opd)).opd ((me_tup (mds_cons (me_str).frz (mds_cons (me_str).frz mds_nil)))).opd) (mw_and1 (mt_cmp (g := gNotIn) (op_notInX rfl hr) ops_notIn ((me_ix (op_ixK rfl) ops_ix ((me_var 2)).opd (me_int).opd)).opd ((me_var 8)).opd)))).toT (mss_one (ms_ret (me_tup (mds_cons (me_str).frz (mds_cons ((me_var 4)).frz (mds_cons ((me_ix (op_ixK rfl) ops_ix ((me_var 2)).opd (me_int).opd)).frz mds_nil)))))) mss_nil)
    (mss_cons (ms_if (mt_cmp (g := gEq) (op_eqK rfl hr) ops_eq ((me_ix (op_ixK rfl) ops_ix ((me_var 2)).opd (me_int).opd)).opd (me_str).opd) (mss_one (ms_ret (me_tup (mds_cons ((me_lst (j := 0) (mds_cons ((me_tup (mds_cons ((me_var 4)).frz (mds_cons ((me_ix (op_ixK rfl) ops_ix ((me_var 2)).opd (me_int).opd)).frz mds_nil)))).frz mds_nil))).frz (mds_cons ((me_lst (j := 0) mds_nil)).frz (mds_cons ((me_lst (j := 0) mds_nil)).frz mds_nil)))))) mss_nil)
    (mss_cons (ms_unp [7, 11] ((me_tup (mds_cons ((me_ix (op_ixK rfl) ops_ix ((me_var 2)).opd ((me_un un_neg uns_neg (me_int).opd)).opd)).frz (mds_cons ((me_ix (op_ixK rfl) ops_ix ((me_var 2)).opd ((me_un un_neg uns_neg (me_int).opd)).opd)).frz mds_nil)))).frz (mg_tp (mgs_cons (mg_nm 7 sc_law_due.nd) (mgs_cons (mg_nm 11 sc_law_due.nd) mgs_nil))))
    (mss_cons (ms_set 12 sc_law_due.nd (me_index ((me_var 6)).opd (mas_cons ((me_var 7)).opd mas_nil)))
    (mss_cons (ms_if (mt_cmp (g := gEq) (op_eqK rfl hr) ops_eq ((me_ix (op_ixK rfl) ops_ix ((me_var 2)).opd (me_int).opd)).opd (me_str).opd) (mss_one (ms_ret (me_tup (mds_cons ((me_lc [9] (blk_ok (N := N_law_due) (sc := defScope st_law_due) (own := [("row", 9)]) rfl (by decide +kernel)) sc_law_due.nd (mi_any ((me_var 5)).frz) (hv_of rfl) (fun _ _ _ _ _ => (mg_nm 9 sc_law_due.nd)) (fun _ _ _ _ _ => let q0 := (mt_cmp (g := gEq) (op_eqK rfl hr) ops_eq ((me_ix (op_ixK rfl) ops_ix ((me_var 9)).opd ((me_var 12)).opd)).opd ((me_var 11)).opd); ⟨pts_one q0.pt, q0.sn⟩) (fun _ _ _ _ _ => ((me_tup (mds_cons ((me_var 4)).frz (mds_cons ((me_ix (op_ixK rfl) ops_ix ((me_var 9)).opd (me_int).opd)).frz mds_nil)))).frz))).frz (mds_cons ((me_lst (j := 0) mds_nil)).frz (mds_cons ((me_lst (j := 0) mds_nil)).frz mds_nil)))))) mss_nil)
    (mss_cons (ms_set 13 sc_law_due.nd (me_lst (j := 0) mds_nil))
    (mss_cons (ms_for [9] (passes_of rfl) (mi_any ((me_var 5)).frz) (mg_nm 9 sc_law_due.nd) (mss_cons (ms_set 14 sc_law_due.nd (me_ix (op_ixK rfl) ops_ix ((me_var 9)).opd ((me_var 12)).opd))
    (mss_cons (ms_if ((mw_and (mt_cmp (g := gEq) (op_eqK rfl hr) ops_eq ((me_ix (op_ixK rfl) ops_ix ((me_var 2)).opd (me_int).opd)).opd (me_str).opd) (mw_and1 (mt_cmp (g := gNotN) (op_notN) ops_notN ((me_var 14)).opd (me_non).opd)))).toT (mss_one (ms_set 14 sc_law_due.nd (me_op (op_addX rfl) ops_add ((me_var 14)).opd ((me_var 11)).opd))) mss_nil)
    (mss_cons (ms_if ((mw_and (mt_cmp (g := gEq) (op_eqK rfl hr) ops_eq ((me_ix (op_ixK rfl) ops_ix ((me_var 2)).opd (me_int).opd)).opd (me_str).opd) (mw_and1 (mt_cmp (g := gEq) (op_eqK rfl hr) ops_eq ((me_ix (op_ixK rfl) ops_ix ((me_var 9)).opd (me_int).opd)).opd ((me_ix (op_ixK rfl) ops_ix ((me_var 2)).opd (me_int).opd)).opd)))).toT (mss_one (ms_set 14 sc_law_due.nd (me_var 11))) mss_nil)
    (mss_one (ms_if (mt_cmp (g := gNe) (op_neK rfl hr) ops_ne ((me_var 14)).opd ((me_ix (op_ixK rfl) ops_ix ((me_var 9)).opd ((me_var 12)).opd)).opd) (mss_one (ms_append 13 (mds_cons ((me_tup (mds_cons ((me_var 4)).frz (mds_cons ((me_ix (op_ixK rfl) ops_ix ((me_var 9)).opd (me_int).opd)).frz (mds_cons ((me_var 7)).frz (mds_cons ((me_var 14)).frz mds_nil)))))).frz mds_nil) ((me_tup (mds_cons ((me_var 4)).frz (mds_cons ((me_ix (op_ixK rfl) ops_ix ((me_var 9)).opd (me_int).opd)).frz (mds_cons ((me_var 7)).frz (mds_cons ((me_var 14)).frz mds_nil)))))).frz)) mss_nil))))))
    (mss_one (ms_ret (me_tup (mds_cons ((me_lst (j := 0) mds_nil)).frz (mds_cons ((me_var 13)).frz (mds_cons ((me_lst (j := 0) mds_nil)).frz mds_nil)))))))))))))))))
  exact ⟨_, q.ps, q.sn⟩

/-! ### _law_told -/
abbrev st_law_told : Stmt := topS 36
abbrev N_law_told : List Str := ["tables", "content", "deed", "found", "caught", "error", "kinds"]
theorem sc_law_told : FnScope N_law_told ["tables", "content", "deed"] (defScope st_law_told) := ⟨rfl, rfl, rfl, by decide +kernel, rfl, by decide +kernel, by decide +kernel⟩
def B_law_told : Sm := (sSeq (sUnp (fE (oE (mTup (dsCons (fE (oE (mC .none))) (dsCons (fE (oE (mC .none))) dsNil))))) (.tp [(.nm 3), (.nm 4)]))
    (sSeq (sTryKeep ["Taken", "NoRow"] ["NoSuch"] 5 4
    (sSet 3 (mCall 3 F_own_part (msCons (oE (mVar 0)) (msCons (oE (mVar 1)) (msCons (oE (mVar 2)) msNil))))))
    (sSeq (sIf (mBl (mIsNX false 4)) (sRet (mVar 3)) sNext)
    (sSeq (sSet 6 (mLst (dsCons (fE (oE (mIsX ["NoRow"] ["Taken", "NoRow", "NoSuch"] 4))) (dsCons (fE (oE (mIsX ["Taken"] ["Taken", "NoRow", "NoSuch"] 4))) (dsCons (fE (oE (mIsX ["NoSuch"] ["Taken", "NoRow", "NoSuch"] 4))) dsNil)))))
    (sSeq (sIf (mOr (mBl (mOp (bo gNotIn) (oE (mVar 6)) (oE (mTup (dsCons (fE (oE (mLst (dsCons (fE (oE (mC (.bool true)))) (dsCons (fE (oE (mC (.bool false)))) (dsCons (fE (oE (mC (.bool false)))) dsNil)))))) (dsCons (fE (oE (mLst (dsCons (fE (oE (mC (.bool false)))) (dsCons (fE (oE (mC (.bool true)))) (dsCons (fE (oE (mC (.bool false)))) dsNil)))))) dsNil)))))) (mNot (mTru (oE (mIsX ["Taken", "NoRow"] ["Taken", "NoRow", "NoSuch"] 4))))) (sRet (mC (.str "other"))) sNext)
    (sRet (mTup (dsCons (fE (oE (mOp gIx (oE (mLst (dsCons (fE (oE (mC (.str "norow")))) (dsCons (fE (oE (mC (.str "taken")))) dsNil)))) (oE (mBML gIndexB (oE (mVar 6)) (msCons (oE (mC (.bool true))) msNil)))))) (dsCons (fE (oE (mXf ["Taken", "NoRow"] "table" 4))) (dsCons (fE (oE (mXf ["Taken", "NoRow"] "key" 4))) dsNil))))))))))
def F_law_told : M RV := fnF [0, 1, 2] 7 (B_law_told)
theorem ok_law_told {P : Program} {w : World} {K : PySem.W.Frag} {mg : Str → Option Value} {base : Heap} {k : Nat} {fa : Addr} {fd : FuncData} (m : Mo K w mg) (D : Dfn K "_law_told" st_law_told ["tables", "content", "deed"] [] fa fd) (c_own_part : Cal P w K mg base (L2.CX P w) k "own_part" 3 [] F_own_part) : FnG P w K mg base (L2.CX P w) (k + 1) fa fd ["tables", "content", "deed"] (spM K 3 F_law_told) :=
  dfn_ok (N := N_law_told) (own := [0, 1, 2]) (body := B_law_told) D sc_law_told fun cdv A outer s H vs E hr hg => by
  obtain ⟨T1_Barred, T1_NoSuch, hT1_Barred, hT1_NoSuch, kt1⟩ := m.kt_1
  obtain ⟨T2_Taken, hT2_Taken, kt2⟩ := m.kt_2
  obtain ⟨T3_NoRow, hT3_NoRow, kt3⟩ := m.kt_3
  obtain ⟨T_TableError, hT_TableError, xT_TableError⟩ := m.h_TableError
  have tk : Takes (cxOf (L2.CX P w) P w K mg base N_law_told "_law_told" (defScope st_law_told) fa cdv A outer s H E) (fun c d _ H' => E c d H') := tk_cx
  have px := passX tk
  have q : MSs (cxOf (L2.CX P w) P w K mg base N_law_told "_law_told" (defScope st_law_told) fa cdv A outer s H E) ⟨K, [0, 1, 2], vs, fun c d _ H' => E c d H'⟩ (defBody st_law_told) _ (B_law_told) := (mss_cons (ms_unp [3, 4] ((me_tup (mds_cons (me_non).frz (mds_cons (me_non).frz mds_nil)))).frz (mg_tp (mgs_cons (mg_nm 3 sc_law_told.nd) (mgs_cons (mg_nm 4 sc_law_told.nd) mgs_nil))))
    (mss_cons (ms_tryKeep ["Taken", "NoRow"] ["NoSuch"] 5 4 ⟨rfl, by decide, .inl hT_TableError⟩ xT_TableError tk sc_law_told.nd (fun W pn xe tk => have px := passX tk; (mss_one (ms_set 3 sc_law_told.nd (me_call c_own_part hr hg px (mas_cons ((me_var 0)).opd (mas_cons ((me_var 1)).opd (mas_cons ((me_var 2)).opd mas_nil))))))) (fun a oe pn => pss_one (ps_set (i := 4) sc_law_told.nd rfl (Or.inl rfl) (pe_var (i := 5) rfl (Or.inl rfl) (by decide) (by decide)))))
    (mss_cons (ms_if (mt_isNX 4) (mss_one (ms_ret (me_var 3))) mss_nil)
    (mss_cons (ms_set 6 sc_law_told.nd (me_lst (j := 0) (mds_cons ((me_isX ["NoRow"] ["Taken", "NoRow", "NoSuch"] 4 m.b_isinstance (cls_own hT3_NoRow) kt3)).frz (mds_cons ((me_isX ["Taken"] ["Taken", "NoRow", "NoSuch"] 4 m.b_isinstance (cls_own hT2_Taken) kt2)).frz (mds_cons ((me_isXT (hz := by simp) ["NoSuch"] ["Taken", "NoRow", "NoSuch"] 4 m.b_isinstance (clss_cons (cls_own hT1_Barred) (clss_cons (cls_own hT1_NoSuch) clss_nil)) kt1)).frz mds_nil)))))
    (mss_cons (ms_if ((mw_or (mt_cmp (g := gNotIn) (op_notInX rfl hr) ops_notIn ((me_var 6)).opd ((me_tup (mds_cons ((me_lst (j := 0) (mds_cons (me_bl).frz (mds_cons (me_bl).frz (mds_cons (me_bl).frz mds_nil))))).frz (mds_cons ((me_lst (j := 0) (mds_cons (me_bl).frz (mds_cons (me_bl).frz (mds_cons (me_bl).frz mds_nil))))).frz mds_nil)))).opd) (mw_or1 (mt_not (mt_tru ((me_isX ["Taken", "NoRow"] ["Taken", "NoRow", "NoSuch"] 4 m.b_isinstance (cls_blt m.b_ValueError boot_VE) m.kt_0)).opd))))).toT (mss_one (ms_ret me_str)) mss_nil)
    (mss_one (ms_ret (me_tup (mds_cons ((me_ix (op_ixK rfl) ops_ix ((me_lst (j := 0) (mds_cons (me_str).frz (mds_cons (me_str).frz mds_nil)))).opd ((me_indexB ((me_var 6)).opd (mas_cons (me_bl).opd mas_nil))).opd)).frz (mds_cons ((me_xg ["Taken", "NoRow"] 4 m.xf_table)).frz (mds_cons ((me_xg ["Taken", "NoRow"] 4 m.xf_key)).frz mds_nil)))))))))))
  exact ⟨_, q.ps, q.sn⟩

/-! ### law -/
abbrev st_law : Stmt := topS 37
abbrev N_law : List Str := ["script", "state", "tables", "content", "turn", "deed", "due", "handed", "rows", "row", "part", "kept", "found", "one"]
theorem sc_law : FnScope N_law ["script"] (defScope st_law) := ⟨rfl, rfl, rfl, by decide +kernel, rfl, by decide +kernel, by decide +kernel⟩
def B_law : Sm := (sSeq (sSet 1 (mCall 1 F_law_begin (msCons (oE (mVar 0)) msNil)))
    (sSeq (sSet 2 (mCall 3 F_law_tables (msCons (oE (mVar 1)) (msCons (oE (mOp gAdd (oE (mC (.int 1))) (oE (mCall 2 F_law_take (msCons (oE (mVar 1)) (msCons (oE (mC (.int 4))) msNil)))))) (msCons (oE (mC (.int 5))) msNil)))))
    (sSeq (sSet 3 (mCall 3 F_law_content (msCons (oE (mVar 1)) (msCons (oE (mVar 2)) (msCons (oE (mOp gAdd (oE (mC (.int 1))) (oE (mCall 2 F_law_take (msCons (oE (mVar 1)) (msCons (oE (mC (.int 6))) msNil)))))) msNil)))))
    (sSeq (sFor (mRng1 (msCons (oE (mC (.int 30))) msNil)) (.nm 4) (sSeq (sSet 5 (mCall 3 F_law_deed (msCons (oE (mVar 1)) (msCons (oE (mVar 2)) (msCons (oE (mVar 3)) msNil)))))
    (sSeq (sPar [6, 7] (msCons (mCall 3 F_law_due (msCons (oE (mVar 2)) (msCons (oE (mVar 3)) (msCons (oE (mVar 5)) msNil)))) (msCons (mCall 1 F_law_copiedO (msCons (oE (mVar 3)) msNil)) msNil)))
    (sSeq (sIf (mBl (mOp (bo gEq) (oE (mOp gMod (oE (mVar 4)) (oE (mC (.int 3))))) (oE (mC (.int 1))))) (sSet 7 (mCallB gTuple (msCons (oE (mLcO 3 (.nm 8) [8] mYes (fE (oE (mCallB gTuple (msCons (oE (mVar 8)) msNil)))))) msNil))) sNext)
    (sSeq (sIf (mBl (mOp (bo gEq) (oE (mOp gMod (oE (mVar 4)) (oE (mC (.int 3))))) (oE (mC (.int 2))))) (sSeq (sSet 7 (mLcO 3 (.nm 8) [8] mYes (fE (oE (mLc (mIt (fE (oE (mVar 8)))) (.nm 9) [9] mYes (fE (oE (mCallB gList (msCons (oE (mVar 9)) msNil)))))))))
    (sSet 5 (mLc (mIt (fE (oE (mVar 5)))) (.nm 10) [10] mYes (fE (oE (mIfE (mTru (oE (mIsi "tuple" (oE (mVar 10))))) (mCallB gList (msCons (oE (mVar 10)) msNil)) (mVar 10))))))) sNext)
    (sSeq (sPar [11, 12] (msCons (mCallB gRepr (msCons (oE (mLst (dsCons (fE (oE (mVar 7))) (dsCons (fE (oE (mVar 5))) dsNil)))) msNil)) (msCons (mCall 3 F_law_told (msCons (oE (mVar 2)) (msCons (oE (mVar 7)) (msCons (oE (mVar 5)) msNil)))) msNil)))
    (sSeq (sIf (mLookB (mOr (mNot (mTru (oE (mCallV 2 (F_law_same 12) (msCons (oE (mVar 12)) (msCons (oE (mVar 6)) msNil)))))) (mBl (mOp (bo gNe) (oE (mCallB gRepr (msCons (oE (mLst (dsCons (fE (oE (mVar 7))) (dsCons (fE (oE (mVar 5))) dsNil)))) msNil))) (oE (mVar 11)))))) (sRet (mC (.bool false))) sNext)
    (sIf (mLookB (mAnd (mTru (oE (mIsi "tuple" (oE (mVar 12))))) (mTru (oE (mIsi "list" (oE (mOp gIx (oE (mVar 12)) (oE (mC (.int 0)))))))))) (sSeq (sTlApp 12 13 "more")
    (sIf (mNot (mTru (oE (mCallV 2 (F_law_same 12) (msCons (oE (mTf (mCall 3 F_law_told (msCons (oE (mVar 2)) (msCons (oE (mVar 7)) (msCons (oE (mVar 5)) msNil)))))) (msCons (oE (mVar 6)) msNil)))))) (sRet (mC (.bool false))) sNext)) sNext))))))))
    (sRet (mC (.bool true)))))))
def F_law : M RV := fnF [0] 14 (B_law)
theorem ok_law {P : Program} {w : World} {K : PySem.W.Frag} {mg : Str → Option Value} {base : Heap} {k : Nat} {fa : Addr} {fd : FuncData} (m : Mo K w mg) (D : Dfn K "law" st_law ["script"] [] fa fd) (c_law_same : Cal P w K mg base (L2.CX P w) k "_law_same" 2 [] (F_law_same 12)) (c_law_told : Cal P w K mg base (L2.CX P w) k "_law_told" 3 [] F_law_told) (c_law_copiedO : Cal P w K mg base (L2.CX P w) k "_law_copied" 1 [] F_law_copiedO) (c_law_due : Cal P w K mg base (L2.CX P w) k "_law_due" 3 [] F_law_due) (c_law_deed : Cal P w K mg base (L2.CX P w) k "_law_deed" 3 [] F_law_deed) (c_law_content : Cal P w K mg base (L2.CX P w) k "_law_content" 3 [] F_law_content) (c_law_take : Cal P w K mg base (L2.CX P w) k "_law_take" 2 [] F_law_take) (c_law_tables : Cal P w K mg base (L2.CX P w) k "_law_tables" 3 [] F_law_tables) (c_law_begin : Cal P w K mg base (L2.CX P w) k "_law_begin" 1 [] F_law_begin) : FnG P w K mg base (L2.CX P w) (k + 1) fa fd ["script"] (spM K 1 F_law) :=
  dfn_ok (N := N_law) (own := [0]) (body := B_law) D sc_law fun cdv A outer s H vs E hr hg => by
  have tk : Takes (cxOf (L2.CX P w) P w K mg base N_law "law" (defScope st_law) fa cdv A outer s H E) (fun c d _ H' => E c d H') := tk_cx
  have px := passX tk
  have q : MSs (cxOf (L2.CX P w) P w K mg base N_law "law" (defScope st_law) fa cdv A outer s H E) ⟨K, [0], vs, fun c d _ H' => E c d H'⟩ (defBody st_law) _ (B_law) := (mss_cons (ms_set 1 sc_law.nd (me_call c_law_begin hr hg px (mas_cons ((me_var 0)).opd mas_nil)))
    (mss_cons (ms_set 2 sc_law.nd (me_call c_law_tables hr hg px (mas_cons ((me_var 1)).opd (mas_cons ((me_op (op_addX rfl) ops_add (me_int).opd ((me_call c_law_take hr hg px (mas_cons ((me_var 1)).opd (mas_cons (me_int).opd mas_nil)))).opd)).opd (mas_cons (me_int).opd mas_nil)))))
    (mss_cons (ms_set 3 sc_law.nd (me_call c_law_content hr hg px (mas_cons ((me_var 1)).opd (mas_cons ((me_var 2)).opd (mas_cons ((me_op (op_addX rfl) ops_add (me_int).opd ((me_call c_law_take hr hg px (mas_cons ((me_var 1)).opd (mas_cons (me_int).opd mas_nil)))).opd)).opd mas_nil)))))
    (mss_cons (ms_for [4] (passes_of rfl) (mi_rng1 m.b_range (mas_cons (me_int).opd mas_nil)) (mg_nm 4 sc_law.nd) (mss_cons (ms_set 5 sc_law.nd (me_call c_law_deed hr hg px (mas_cons ((me_var 1)).opd (mas_cons ((me_var 2)).opd (mas_cons ((me_var 3)).opd mas_nil)))))
    (mss_cons (ms_par2 6 7 sc_law.nd (mrs_cons (me_call c_law_due hr hg px (mas_cons ((me_var 2)).opd (mas_cons ((me_var 3)).opd (mas_cons ((me_var 5)).opd mas_nil)))) (mrs_cons (me_call c_law_copiedO hr hg px (mas_cons ((me_var 3)).opd mas_nil)) mrs_nil)))
    (mss_cons (ms_if (mt_cmp (g := gEq) (op_eqK rfl hr) ops_eq ((me_op (op_mod) ops_mod ((me_var 4)).opd (me_int).opd)).opd (me_int).opd) (mss_one (ms_set 7 sc_law.nd (me_callTy (cr_tuple rfl) cs_tuple m.b_tuple (mas_cons ((me_lcO (X := (cxOf (L2.CX P w) P w K mg base N_law "law" (defScope st_law) fa cdv A outer s H E)) (C := ⟨K, [0], vs, fun c d _ H' => E c d H'⟩) [8] 3 (blk_ok (N := N_law) (sc := defScope st_law) (own := [("rows", 8)]) rfl (by decide +kernel)) sc_law.nd (hv_of rfl) (fun _ _ _ _ _ => (mg_nm 8 sc_law.nd)) (fun _ _ _ _ _ => ⟨pts_nil, snd_yes⟩) (fun _ _ _ _ _ => ((me_callTy (cr_tuple rfl) cs_tuple m.b_tuple (mas_cons ((me_var 8)).opd mas_nil) PyProof.Rows.boot_tuple)).frz))).opd mas_nil) PyProof.Rows.boot_tuple))) mss_nil)
    (mss_cons (ms_if (mt_cmp (g := gEq) (op_eqK rfl hr) ops_eq ((me_op (op_mod) ops_mod ((me_var 4)).opd (me_int).opd)).opd (me_int).opd) (mss_cons (ms_setLcO 7 (X := (cxOf (L2.CX P w) P w K mg base N_law "law" (defScope st_law) fa cdv A outer s H E)) (C := ⟨K, [0], vs, fun c d _ H' => E c d H'⟩) [8] 3 (blk_ok (N := N_law) (sc := defScope st_law) (own := [("rows", 8)]) rfl (by decide +kernel)) sc_law.nd (hv_of rfl) (fun _ _ _ _ _ => (mg_nm 8 sc_law.nd)) (fun _ _ _ _ _ => ⟨pts_nil, snd_yes⟩) (fun _ _ _ _ _ => ((me_lc [9] (by exact blk_ok (own := [("row", 9)]) rfl (of_decide_eq_true (Eq.refl true))) sc_law.nd (mi_any ((me_var 8)).frz) (hv_of rfl) (fun _ _ _ _ _ => (mg_nm 9 sc_law.nd)) (fun _ _ _ _ _ => ⟨pts_nil, snd_yes⟩) (fun _ _ _ _ _ => ((me_callTy (cr_list rfl) cs_list m.b_list (mas_cons ((me_var 9)).opd mas_nil) PyProof.Rows.boot_list)).frz))).frz))
    (mss_one (ms_setLc 5 [10] (blk_ok (N := N_law) (sc := defScope st_law) (own := [("part", 10)]) rfl (by decide +kernel)) sc_law.nd (mi_any ((me_var 5)).frz) (hv_of rfl) (fun _ _ _ _ _ => (mg_nm 10 sc_law.nd)) (fun _ _ _ _ _ => ⟨pts_nil, snd_yes⟩) (fun _ _ _ _ _ => ((me_ifE (mt_tru ((me_isi "tuple" ((me_var 10)).opd m.b_isinstance m.b_tuple)).opd) (me_callTy (cr_list rfl) cs_list m.b_list (mas_cons ((me_var 10)).opd mas_nil) PyProof.Rows.boot_list) (me_var 10))).frz)))) mss_nil)
    (mss_cons (ms_par2 11 12 sc_law.nd (mrs_cons (me_callB (cr_repr rfl hr hg) cs_repr m.b_repr (mas_cons ((me_lst (j := 0) (mds_cons ((me_var 7)).frz (mds_cons ((me_var 5)).frz mds_nil)))).opd mas_nil) PyProof.Rows.boot_repr) (mrs_cons (me_call c_law_told hr hg px (mas_cons ((me_var 2)).opd (mas_cons ((me_var 7)).opd (mas_cons ((me_var 5)).opd mas_nil)))) mrs_nil)))
    (mss_cons (ms_if (mt_look (((mw_or (mt_not (mt_tru ((me_callV c_law_same hr hg px (mas_cons ((me_var 12)).opd (mas_cons ((me_var 6)).opd mas_nil)))).opd)) (mw_or1 (mt_cmp (g := gNe) (op_neK rfl hr) ops_ne ((me_callB (cr_repr rfl hr hg) cs_repr m.b_repr (mas_cons ((me_lst (j := 0) (mds_cons ((me_var 7)).frz (mds_cons ((me_var 5)).frz mds_nil)))).opd mas_nil) PyProof.Rows.boot_repr)).opd ((me_var 11)).opd)))).toT)) (mss_one (ms_ret me_bl)) mss_nil)
    (mss_one (ms_if (mt_look (((mw_and (mt_tru ((me_isi "tuple" ((me_var 12)).opd m.b_isinstance m.b_tuple)).opd) (mw_and1 (mt_tru ((me_isi "list" ((me_ix (op_ixK rfl) ops_ix ((me_var 12)).opd (me_int).opd)).opd m.b_isinstance m.b_list)).opd)))).toT)) (mss_cons (ms_tlApp 12 13 (passes_of rfl) sc_law.nd)
    (mss_one (ms_if (mt_not (mt_tru ((me_callV c_law_same hr hg px (mas_cons ((me_tf (me_call c_law_told hr hg px (mas_cons ((me_var 2)).opd (mas_cons ((me_var 7)).opd (mas_cons ((me_var 5)).opd mas_nil)))))).opd (mas_cons ((me_var 6)).opd mas_nil)))).opd)) (mss_one (ms_ret me_bl)) mss_nil))) mss_nil)))))))))
    (mss_one (ms_ret me_bl))))))
  exact ⟨_, q.ps, q.sn⟩
end GA

namespace GA
open PySem PySem.Spec L2 M3 M4 M5
open PyProof.Rows hiding St
open GC (lc_map lc_filtM zip_same gNe_bool sz_of trues trues2 Sw RX rowC rowsC RowOk RowsOk CtOk HdOk rowL H0 H1 H2 Handed wEq gEq_wd wEq_iff e_tp e_cp e_rows e_row rowOf fn_at gIdx_L handed_fi handed_hd two_okd plD NSx x_raise cellJ cell_ok gAdd_ll cut_from)
theorem same_seq (G : M RV) (X : D) (ds : List D) (hX : X = .list ds ∨ X = .tuple ds) (hl : ds.length ≤ 1000) (h : ∀ x ∈ ds, G [some (.fro x), some (.fro x)] = .ok (.fro (.bool true)) [some (.fro x), some (.fro x)]) :
    fnF [0, 1] 4 (B_law_same G) [some (.fro X), some (.fro X)] = .ok (.fro (.bool true)) [some (.fro X), some (.fro X)] := by
  have e := lc_map (p := .tp [.nm 2, .nm 3]) (vs := [2, 3]) (m := fE (oE (mCall 2 G (msCons (oE (mVar 2)) (msCons (oE (mVar 3)) msNil))))) (g := fun x => .tuple [x, x]) (f := fun _ => .bool true) (ε := [some (.fro X), some (.fro X), none, none]) (xs := ds) (acc := [])
    (fun x hx => ⟨_, _, by simp; rfl, by simp [h x hx]; rfl, by simp⟩) (by have := sz_of hl; simpa using this)
  rcases hX with rfl | rfl
  · simp [B_law_same, isiAny, isi_list, isi_tuple, is_list, is_tuple, gNe_bool, gLen, gEq_int, seqD, mZip, zip_same, e, gAll, trues, trues2]
  · simp [B_law_same, isiAny, isi_list, isi_tuple, is_list, is_tuple, gNe_bool, gLen, gEq_int, seqD, mZip, zip_same, e, gAll, trues, trues2]
theorem same_ok : ∀ (n : Nat) (d : D), Sw n d → F_law_same (n + 1) [some (.fro d), some (.fro d)] = .ok (.fro (.bool true)) [some (.fro d), some (.fro d)]
  | n, .none, _ => by simp [F_law_same, B_law_same, isiAny, isi_list, isi_tuple, is_list, is_tuple, gIsN, isNoneD]
  | n, .bool b, _ => by simp [F_law_same, B_law_same, isiAny, isi_list, isi_tuple, is_list, is_tuple, gIsN, isNoneD, isi_bool, M4.is_bool, gEq_bool]
  | n, .int b, _ => by simp [F_law_same, B_law_same, isiAny, isi_list, isi_tuple, is_list, is_tuple, gIsN, isNoneD, isi_bool, M4.is_bool, isi_str, is_str, isi_int, M4.is_int, gEq_int]
  | n, .str b, _ => by simp [F_law_same, B_law_same, isiAny, isi_list, isi_tuple, is_list, is_tuple, gIsN, isNoneD, isi_bool, M4.is_bool, isi_str, is_str, gEq_same]
  | 0, .list ds, h => h.elim
  | 0, .tuple ds, h => h.elim
  | n + 1, .list ds, h => by
    unfold Sw at h
    exact same_seq (F_law_same (n + 1)) (.list ds) ds (.inl rfl) h.1 fun x hx => same_ok n x (h.2 x hx)
  | n + 1, .tuple ds, h => by
    unfold Sw at h
    exact same_seq (F_law_same (n + 1)) (.tuple ds) ds (.inr rfl) h.1 fun x hx => same_ok n x (h.2 x hx)
  | 0, .dict _, h => h.elim
  | n + 1, .dict _, h => h.elim
theorem same12 {d : D} (h : Sw 11 d) : F_law_same 12 [some (.fro d), some (.fro d)] = .ok (.fro (.bool true)) [some (.fro d), some (.fro d)] := same_ok 11 d h

/-! ### deeds that are right -/
inductive DeedP (ts : List M5.TT) : D → Prop
  | put {k : Nat} {t : M5.TT} {r : RX} : ts[k]? = some t → RowOk t.2 r → DeedP ts (.tuple [.str "put", dL t.1, rowC r])
  | drop {k : Nat} {t : M5.TT} {i : Int} : ts[k]? = some t → Wd (.int i) → DeedP ts (.tuple [.str "drop", dL t.1, .int i])
  | set {k j : Nat} {t : M5.TT} {c : TC} {i : Int} {v : D} : ts[k]? = some t → t.2[j]? = some c → Wd (.int i) → Wd v → DeedP ts (.tuple [.str "set", dL t.1, .int i, dL c.1, v])
  | sweep {k j : Nat} {t : M5.TT} {c : TC} {v : D} : ts[k]? = some t → t.2[j]? = some c → Wd v → DeedP ts (.tuple [.str "sweep", dL t.1, dL c.1, v])
  | shift {k j : Nat} {t : M5.TT} {c : TC} {i : Int} : ts[k]? = some t → t.2[j]? = some c → Wd (.int i) → DeedP ts (.tuple [.str "shift", dL t.1, dL c.1, .int i])
theorem pw_wd {d : D} (h : pWorth BIG d = true) : Wd d := by
  cases d with
  | none => exact .inl rfl
  | int i =>
    have h : (decide (-BIG ≤ i) && decide (i ≤ BIG)) = true := h
    rw [Bool.and_eq_true, decide_eq_true_iff, decide_eq_true_iff] at h
    exact .inr ⟨i, rfl, h.1, h.2⟩
  | _ => cases h
theorem pw_int {d : D} (h : pWorth BIG d = true) (n : isNoneD d = false) : ∃ i, d = .int i ∧ Wd (.int i) := by
  have w := pw_wd h
  rcases w with rfl | ⟨i, rfl, h1, h2⟩
  · cases n
  · exact ⟨i, rfl, .inr ⟨i, rfl, h1, h2⟩⟩
theorem colm_of {cols : List TC} {d : D} (h : pColm cols d = true) : ∃ (j : Nat) (c : TC), cols[j]? = some c ∧ d = dL c.1 := by
  cases d with
  | str z =>
    have h : hasC cols z = true := h
    unfold hasC at h
    obtain ⟨c, hc, e⟩ := List.any_eq_true.mp h
    obtain ⟨j, hj⟩ := List.getElem?_of_mem hc
    exact ⟨j, c, hj, by have e : sL c.1 = z := by simpa using e
                        rw [← e]; rfl⟩
  | _ => cases h
theorem deed_inv {ts : List M5.TT} {d : D} (h : pDeed ts d = true) : DeedP ts d := by
  unfold pDeed at h
  split at h
  · rename_i w t ps
    split at h
    · cases h
    · rename_i tb e
      obtain ⟨ht, hz⟩ := find_mem e
      obtain ⟨k, hk⟩ := List.getElem?_of_mem ht
      have ez : PyData.str t = dL tb.1 := by rw [← hz]; rfl
      rw [ez]
      unfold pFit at h
      split at h
      · rename_i hw
        subst hw
        split at h
        · rename_i x
          unfold pRow at h
          split at h
          · rename_i y ys
            simp only [Bool.and_eq_true, decide_eq_true_iff, List.all_eq_true, Bool.not_eq_true'] at h
            obtain ⟨h1, h2, h3⟩ := h
            obtain ⟨i, rfl, wi⟩ := pw_int (h2 y List.mem_cons_self) h3
            have b : -1000000000 ≤ i ∧ i ≤ 1000000000 := by
              rcases wi with z | ⟨i', z, z1, z2⟩
              · cases z
              · cases z; exact ⟨z1, z2⟩
            exact DeedP.put (r := (i, ys)) hk ⟨h1, fun d hd => pw_wd (h2 d (List.mem_cons_of_mem _ hd)), b⟩
          · cases h
        · cases h
      · split at h
        · rename_i hw
          subst hw
          split at h
          · rename_i x
            simp only [Bool.and_eq_true, Bool.not_eq_true'] at h
            obtain ⟨i, rfl, wi⟩ := pw_int h.2 h.1
            exact .drop hk wi
          · cases h
        · split at h
          · rename_i hw
            subst hw
            split at h
            · rename_i x c v
              simp only [Bool.and_eq_true, Bool.not_eq_true'] at h
              obtain ⟨⟨h1, h2⟩, h3, h4, _⟩ := h
              obtain ⟨i, rfl, wi⟩ := pw_int h2 h1
              obtain ⟨j, c', hc, rfl⟩ := colm_of h3
              exact .set hk hc wi (pw_wd h4)
            · cases h
          · split at h
            · rename_i hw
              subst hw
              split at h
              · rename_i c v
                simp only [Bool.and_eq_true] at h
                obtain ⟨j, c', hc, rfl⟩ := colm_of h.1
                exact .sweep hk hc (pw_wd h.2)
              · cases h
            · split at h
              · rename_i hw
                subst hw
                split at h
                · rename_i c v
                  simp only [Bool.and_eq_true, Bool.not_eq_true'] at h
                  obtain ⟨j, c', hc, rfl⟩ := colm_of h.1
                  obtain ⟨i, rfl, wi⟩ := pw_int h.2.1 h.2.2
                  exact .shift hk hc wi
                · cases h
              · cases h
  · cases h
theorem ct_of {ts : List M5.TT} {ct : List (List M5.RW)} (h : GoodCt ts ct) : CtOk ts ct :=
  ⟨h.l, fun k t rs h1 h2 => by
    have g := h.g k t rs h1 h2
    exact ⟨fun r hr => ⟨(g.g r hr).l, (g.g r hr).w, by have := (g.g r hr).k; omega⟩, by rw [List.pairwise_map]; exact g.up, g.l⟩⟩
end GA

namespace GA
open PySem PySem.Spec L2 M3 M4 M5
open PyProof.Rows hiding St
open GC (lc_map lc_filtM zip_same gNe_bool sz_of trues trues2 Sw RX rowC rowsC RowOk RowsOk CtOk HdOk rowL H0 H1 H2 Handed wEq gEq_wd wEq_iff e_tp e_cp e_rows e_row rowOf fn_at gIdx_L handed_fi handed_hd two_okd plD NSx x_raise cellJ cell_ok gAdd_ll cut_from hd_cell hd_tp)
def NR (t k : D) : Xn := ⟨"NoRow", [("key", k), ("table", t)]⟩
def TK (t k : D) : Xn := ⟨"Taken", [("key", k), ("table", t)]⟩
/-- the row of a key -/
def atR (rs : List RX) (i : Int) : Option RX := rs.find? fun r => r.1 == i
theorem rowOf_at (rs : List RX) (i : Int) : rowOf rs (.int i) = match atR rs i with
    | some r => rowC r
    | none => .none := by
  unfold rowOf atR
  have e : (fun r : RX => wEq (.int r.1) (.int i)) = fun r => r.1 == i := rfl
  rw [e] <;> (cases (rs.find? fun r => r.1 == i) <;> rfl)
def swR (n : D) (rs : List RX) (j : Nat) (v : D) : List D := (rs.filter fun r => wEq (cellJ r j) v).map fun r => .tuple [n, .int r.1]
def addI (d : D) (b : Int) : D := match d with
  | .int a => .int (a + b)
  | d => d
def shR (n c : D) (rs : List RX) (j : Nat) (b : Int) : List D := if b = 0 then [] else (rs.filter fun r => !isNoneD (cellJ r j)).map fun r => .tuple [n, .int r.1, c, addI (cellJ r j) b]
def stR (n c v : D) (r : RX) (j : Nat) : List D := if wEq (cellJ r j) v then [] else [.tuple [n, .int r.1, c, v]]
section
variable {ts : List M5.TT} (hT : GoodT ts) {ct : List (List RX)} (hC : CtOk ts ct) {HD : D} {rg : RX → D} (hd : HdOk ts HD rg ct)
  {k : Nat} {t : M5.TT} {rs : List RX} (ht : ts[k]? = some t) (hr : ct[k]? = some rs)
include hT hC hd ht hr
theorem e_ro {i : Int} (hi : Wd (.int i)) : F_row_of [fT ts, some (.fro HD), fS (sL t.1), fI i] = .ok (.fro (rowOf rs (.int i))) [fT ts, some (.fro HD), fS (sL t.1), fI i] := e_row hT hC hd ht hr (.int i) hi
theorem e_look {i : Int} (hi : Wd (.int i)) : F_look_row [fT ts, some (.fro HD), fS (sL t.1), fI i] = match atR rs i with
    | some r => .ok (.fro (rowC r)) [fT ts, some (.fro HD), fS (sL t.1), fI i]
    | none => .err (NR (dL t.1) (.int i)) [fT ts, some (.fro HD), fS (sL t.1), fI i] := by
  have e := e_ro hT hC hd ht hr hi
  rw [rowOf_at] at e
  cases q : atR rs i with
  | some r =>
    rw [q] at e
    simp [F_look_row, B_look_row, e, gIsN, isNoneD, rowC]
  | none =>
    rw [q] at e
    simp [F_look_row, B_look_row, e, gIsN, isNoneD, NR]
    rfl
theorem e_put {r : RX} {R : D} (hi : Wd (.int r.1)) (h0 : gIx R (.int 0) = some (.val (.int r.1))) (h1 : ∀ ε : En, outR (gTuple [R]) ε = .ok (.fro (rowC r)) ε) : F_put_part [fT ts, some (.fro HD), fS (sL t.1), some (.fro R)] = match atR rs r.1 with
    | some _ => .err (TK (dL t.1) (.int r.1)) [fT ts, some (.fro HD), fS (sL t.1), some (.fro R)]
    | none => .ok (.new (.tl [[], [], [.tuple [dL t.1, rowC r]]])) [fT ts, some (.fro HD), fS (sL t.1), some (.fro R)] := by
  have e := e_ro hT hC hd ht hr hi
  rw [rowOf_at] at e
  have z0 : (0 : Nat) ≤ sizeLine := sz_of (by omega)
  have z1 : (1 : Nat) ≤ sizeLine := sz_of (by omega)
  have z2 : (2 : Nat) ≤ sizeLine := sz_of (by omega)
  cases q : atR rs r.1 with
  | some r' =>
    rw [q] at e
    simp [F_put_part, B_put_part, e, h0, gNotN, isNoneD, rowC, TK]
    rfl
  | none =>
    rw [q] at e
    simp [F_put_part, B_put_part, e, h0, h1, gNotN, isNoneD, z0, z1, z2, tlOf, dL]
theorem e_drop {i : Int} (hi : Wd (.int i)) : F_drop_part [fT ts, some (.fro HD), fS (sL t.1), fI i] = match atR rs i with
    | some _ => .ok (.new (.tl [[.tuple [dL t.1, .int i]], [], []])) [fT ts, some (.fro HD), fS (sL t.1), fI i]
    | none => .err (NR (dL t.1) (.int i)) [fT ts, some (.fro HD), fS (sL t.1), fI i] := by
  have e := e_look hT hC hd ht hr hi
  have z0 : (0 : Nat) ≤ sizeLine := sz_of (by omega)
  have z1 : (1 : Nat) ≤ sizeLine := sz_of (by omega)
  have z2 : (2 : Nat) ≤ sizeLine := sz_of (by omega)
  cases q : atR rs i with
  | some r' =>
    rw [q] at e
    simp [F_drop_part, B_drop_part, e, z0, z1, z2, tlOf, dL]
  | none =>
    rw [q] at e
    simp [F_drop_part, B_drop_part, e]
theorem e_set {i : Int} (hi : Wd (.int i)) {j : Nat} {c : TC} (hc : t.2[j]? = some c) {v : D} (hv : Wd v) : F_set_part [fT ts, some (.fro HD), fS (sL t.1), fI i, fS (sL c.1), some (.fro v)] = match atR rs i with
    | some r => .ok (.new (.tl [[], stR (dL t.1) (dL c.1) v r j, []])) [fT ts, some (.fro HD), fS (sL t.1), fI i, fS (sL c.1), some (.fro v)]
    | none => .err (NR (dL t.1) (.int i)) [fT ts, some (.fro HD), fS (sL t.1), fI i, fS (sL c.1), some (.fro v)] := by
  have e := e_look hT hC hd ht hr hi
  have ec : F_column_place [fT ts, fS (sL t.1), fS (sL c.1)] = .ok (.fro (.int (j : Int))) [fT ts, fS (sL t.1), fS (sL c.1)] := e_cp hT ht hc
  have z0 : (0 : Nat) ≤ sizeLine := sz_of (by omega)
  have z1 : (1 : Nat) ≤ sizeLine := sz_of (by omega)
  have z4 : (4 : Nat) ≤ sizeLine := sz_of (by omega)
  cases q : atR rs i with
  | some r =>
    rw [q] at e
    have rm : r ∈ rs := List.mem_of_find?_eq_some q
    have ri : r.1 = i := by have := List.find?_some q; simpa using this
    have ro := (hC.g k t rs ht hr).r r rm
    obtain ⟨c1, c2⟩ := cell_ok ro (lt_get hc)
    have g1 : gIx (rowC r) (.int (j : Int)) = some (.val (cellJ r j)) := gIx_t c1
    have g2 := gEq_wd c2 hv
    cases b : wEq (cellJ r j) v with
    | true =>
      rw [b] at g2
      simp [F_set_part, B_set_part, e, ec, g1, g2, z0, tlOf, stR, b]
    | false =>
      rw [b] at g2
      simp [F_set_part, B_set_part, e, ec, g1, g2, z0, z1, z4, tlOf, stR, b, ri, dL]
  | none =>
    rw [q] at e
    simp [F_set_part, B_set_part, e]
theorem e_sweep {j : Nat} {c : TC} (hc : t.2[j]? = some c) {v : D} (hv : Wd v) : F_sweep_part [fT ts, some (.fro HD), fS (sL t.1), fS (sL c.1), some (.fro v)] = .ok (.new (.tl [swR (dL t.1) rs j v, [], []])) [fT ts, some (.fro HD), fS (sL t.1), fS (sL c.1), some (.fro v)] := by
  have ec : F_column_place [fT ts, fS (sL t.1), fS (sL c.1)] = .ok (.fro (.int (j : Int))) [fT ts, fS (sL t.1), fS (sL c.1)] := e_cp hT ht hc
  obtain ⟨R, hi, er⟩ := e_rows hT hC hd ht hr
  have er : F_rows_of [fT ts, some (.fro HD), fS (sL t.1)] = .ok (.fro R) [fT ts, some (.fro HD), fS (sL t.1)] := er
  have ro := hC.g k t rs ht hr
  have z0 : (0 : Nat) ≤ sizeLine := sz_of (by omega)
  have z2 : (2 : Nat) ≤ sizeLine := sz_of (by omega)
  have e := lc_filtM (p := .nm 6) (vs := [6]) (c := mBl (mOp (bo gEq) (oE (mOp gIx (oE (mVar 6)) (oE (mVar 5)))) (oE (mVar 4)))) (m := fE (oE (mTup (dsCons (fE (oE (mVar 2))) (dsCons (fE (oE (mOp gIx (oE (mVar 6)) (oE (mC (.int 0)))))) dsNil))))) (g := rg) (f := fun r => PyData.tuple [dL t.1, .int r.1]) (q := fun r => wEq (cellJ r j) v)
    (ε := [fT ts, some (.fro HD), fS (sL t.1), fS (sL c.1), some (.fro v), fI j, none]) (xs := rs) (acc := [])
    (fun r hrr => by
      obtain ⟨c1, c2⟩ := cell_ok (ro.r r hrr) (lt_get hc)
      have g1 := hd.cell r j _ c1
      have g0 := hd.cell r 0 (.int r.1) rfl
      rw [show ((0 : Nat) : Int) = 0 from rfl] at g0
      have g2 := gEq_wd c2 hv
      exact ⟨[fT ts, some (.fro HD), fS (sL t.1), fS (sL c.1), some (.fro v), fI j, some (.fro (rg r))], [fT ts, some (.fro HD), fS (sL t.1), fS (sL c.1), some (.fro v), fI j, some (.fro (rg r))], by simp, by simp [g1, g2], by simp, fun _ => ⟨[fT ts, some (.fro HD), fS (sL t.1), fS (sL c.1), some (.fro v), fI j, some (.fro (rg r))], by simp [g0, z2, dL], by simp⟩⟩)
    (by have := ro.l; simpa using sz_of (by omega))
  rw [List.nil_append] at e
  have e2 : (rs.filter fun r => wEq (cellJ r j) v).map (fun r => PyData.tuple [dL t.1, .int r.1]) = swR (dL t.1) rs j v := rfl
  rw [e2] at e
  generalize swR (dL t.1) rs j v = Z at *
  simp [F_sweep_part, B_sweep_part, ec, er, hi, e, z0, tlOf]
theorem e_shift {j : Nat} {c : TC} (hc : t.2[j]? = some c) {b : Int} : F_shift_part [fT ts, some (.fro HD), fS (sL t.1), fS (sL c.1), fI b] = .ok (.new (.tl [[], shR (dL t.1) (dL c.1) rs j b, []])) [fT ts, some (.fro HD), fS (sL t.1), fS (sL c.1), fI b] := by
  have ec : F_column_place [fT ts, fS (sL t.1), fS (sL c.1)] = .ok (.fro (.int (j : Int))) [fT ts, fS (sL t.1), fS (sL c.1)] := e_cp hT ht hc
  obtain ⟨R, hi, er⟩ := e_rows hT hC hd ht hr
  have er : F_rows_of [fT ts, some (.fro HD), fS (sL t.1)] = .ok (.fro R) [fT ts, some (.fro HD), fS (sL t.1)] := er
  have ro := hC.g k t rs ht hr
  have z0 : (0 : Nat) ≤ sizeLine := sz_of (by omega)
  have z4 : (4 : Nat) ≤ sizeLine := sz_of (by omega)
  by_cases hb : b = 0
  · subst hb
    simp [F_shift_part, B_shift_part, ec, gEq_int, z0, tlOf, shR]
  · have e := lc_filtM (p := .nm 7) (vs := [7]) (c := mBl (mOp (bo gNotN) (oE (mOp gIx (oE (mVar 7)) (oE (mVar 5)))) (oE (mC .none)))) (m := fE (oE (mVar 7))) (g := rg) (f := rg) (q := fun r => !isNoneD (cellJ r j))
      (ε := [fT ts, some (.fro HD), fS (sL t.1), fS (sL c.1), fI b, fI j, none, none]) (xs := rs) (acc := [])
      (fun r hrr => by
        obtain ⟨c1, c2⟩ := cell_ok (ro.r r hrr) (lt_get hc)
        have g1 := hd.cell r j _ c1
        exact ⟨[fT ts, some (.fro HD), fS (sL t.1), fS (sL c.1), fI b, fI j, none, some (.fro (rg r))], [fT ts, some (.fro HD), fS (sL t.1), fS (sL c.1), fI b, fI j, none, some (.fro (rg r))], by simp, by simp [g1, gNotN], by simp, fun _ => ⟨[fT ts, some (.fro HD), fS (sL t.1), fS (sL c.1), fI b, fI j, none, some (.fro (rg r))], by simp, by simp⟩⟩)
      (by have := ro.l; simpa using sz_of (by omega))
    rw [List.nil_append] at e
    obtain ⟨FR, hFR⟩ : ∃ FR : List RX, FR = rs.filter fun r => !isNoneD (cellJ r j) := ⟨_, rfl⟩
    rw [← hFR] at e
    have hfl : FR.length ≤ rs.length := by rw [hFR]; exact List.length_filter_le _ _
    have e2 := lc_map (p := .nm 7) (vs := [7]) (m := fE (oE (mTup (dsCons (fE (oE (mVar 2))) (dsCons (fE (oE (mOp gIx (oE (mVar 7)) (oE (mC (.int 0)))))) (dsCons (fE (oE (mVar 3))) (dsCons (fE (oE (mOp gAdd (oE (mOp gIx (oE (mVar 7)) (oE (mVar 5)))) (oE (mVar 4))))) dsNil))))))) (g := rg) (f := fun r => PyData.tuple [dL t.1, .int r.1, dL c.1, addI (cellJ r j) b])
      (ε := [fT ts, some (.fro HD), fS (sL t.1), fS (sL c.1), fI b, fI j, some (.fro (.list (FR.map rg))), none]) (xs := FR) (acc := [])
      (fun r hrr => by
        rw [hFR] at hrr
        obtain ⟨m1, m2⟩ := List.mem_filter.mp hrr
        obtain ⟨c1, c2⟩ := cell_ok (ro.r r m1) (lt_get hc)
        have g1 := hd.cell r j _ c1
        have g0 := hd.cell r 0 (.int r.1) rfl
        rw [show ((0 : Nat) : Int) = 0 from rfl] at g0
        rcases c2 with z | ⟨a, z, _, _⟩
        · rw [z] at m2; cases m2
        · rw [z] at g1 ⊢
          generalize PyData.list (FR.map rg) = XX at *
          exact ⟨[fT ts, some (.fro HD), fS (sL t.1), fS (sL c.1), fI b, fI j, some (.fro XX), some (.fro (rg r))], [fT ts, some (.fro HD), fS (sL t.1), fS (sL c.1), fI b, fI j, some (.fro XX), some (.fro (rg r))], by simp, by simp [g0, g1, z4, dL, gAdd_i, addI], by simp⟩)
      (by have := ro.l; simpa using sz_of (by omega))
    rw [List.nil_append] at e2
    have e3 : FR.map (fun r => PyData.tuple [dL t.1, .int r.1, dL c.1, addI (cellJ r j) b]) = shR (dL t.1) (dL c.1) rs j b := by
      unfold shR
      rw [if_neg hb, hFR]
    rw [e3] at e2
    generalize shR (dL t.1) (dL c.1) rs j b = Z at *
    have it : itemsD (.list (FR.map rg)) = some (FR.map rg) := rfl
    generalize FR.map rg = W at *
    simp [F_shift_part, B_shift_part, ec, gEq_int, hb, er, hi, e, it, e2, z0, tlOf]
end
end GA

namespace GA
open PySem PySem.Spec L2 M3 M4 M5
open PyProof.Rows hiding St
open GC (lc_map lc_filtM zip_same gNe_bool sz_of trues trues2 Sw RX rowC rowsC RowOk RowsOk CtOk HdOk rowL H0 H1 H2 Handed wEq gEq_wd wEq_iff e_tp e_cp e_rows e_row rowOf fn_at gIdx_L handed_fi handed_hd two_okd plD NSx x_raise cellJ cell_ok gAdd_ll cut_from hd_cell hd_tp)
/-- a deed's parts, handed in as a tuple or as a list -/
def isSeq (d : D) (ps : List D) : Prop := d = .tuple ps ∨ d = .list ps
theorem kr_put : List.lookup ("put" : Str) [(("put" : Str), ("put_part" : Str)), (("drop" : Str), ("drop_part" : Str))] = some ("put_part" : Str) := by decide +kernel
theorem fr_put : List.lookup ("put" : Str) [(("put" : Str), F_put_part), (("drop" : Str), F_drop_part)] = some F_put_part := rfl
theorem kr_drop : List.lookup ("drop" : Str) [(("put" : Str), ("put_part" : Str)), (("drop" : Str), ("drop_part" : Str))] = some ("drop_part" : Str) := by decide +kernel
theorem fr_drop : List.lookup ("drop" : Str) [(("put" : Str), F_put_part), (("drop" : Str), F_drop_part)] = some F_drop_part := rfl
theorem kr_set : List.lookup ("set" : Str) [(("put" : Str), ("put_part" : Str)), (("drop" : Str), ("drop_part" : Str))] = none := by decide +kernel
theorem kc_set : List.lookup ("set" : Str) [(("sweep" : Str), ("sweep_part" : Str)), (("shift" : Str), ("shift_part" : Str))] = none := by decide +kernel
theorem kr_sweep : List.lookup ("sweep" : Str) [(("put" : Str), ("put_part" : Str)), (("drop" : Str), ("drop_part" : Str))] = none := by decide +kernel
theorem kc_sweep : List.lookup ("sweep" : Str) [(("sweep" : Str), ("sweep_part" : Str)), (("shift" : Str), ("shift_part" : Str))] = some ("sweep_part" : Str) := by decide +kernel
theorem fc_sweep : List.lookup ("sweep" : Str) [(("sweep" : Str), F_sweep_part), (("shift" : Str), F_shift_part)] = some F_sweep_part := rfl
theorem kr_shift : List.lookup ("shift" : Str) [(("put" : Str), ("put_part" : Str)), (("drop" : Str), ("drop_part" : Str))] = none := by decide +kernel
theorem kc_shift : List.lookup ("shift" : Str) [(("sweep" : Str), ("sweep_part" : Str)), (("shift" : Str), ("shift_part" : Str))] = some ("shift_part" : Str) := by decide +kernel
theorem fc_shift : List.lookup ("shift" : Str) [(("sweep" : Str), F_sweep_part), (("shift" : Str), F_shift_part)] = some F_shift_part := rfl
theorem ix0 (x : D) (xs : List D) : gIx (.list (x :: xs)) (.int 0) = some (.val x) := by
  have := gIx_ln (ds := x :: xs) (k := 0) rfl
  simpa using this
theorem ix1 (x y : D) (xs : List D) : gIx (.list (x :: y :: xs)) (.int 1) = some (.val y) := by
  have := gIx_ln (ds := x :: y :: xs) (k := 1) rfl
  simpa using this
section
variable {ts : List M5.TT} (hT : GoodT ts) {ct : List (List RX)} (hC : CtOk ts ct) {HD : D} {rg : RX → D} (hd : HdOk ts HD rg ct)
  {k : Nat} {t : M5.TT} {rs : List RX} (ht : ts[k]? = some t) (hr : ct[k]? = some rs)
include hT hC hd ht hr
theorem o_put {r : RX} {R dd : D} (hs : isSeq dd [.str "put", dL t.1, R]) (hi : Wd (.int r.1)) (h0 : gIx R (.int 0) = some (.val (.int r.1))) (h1 : ∀ ε : En, outR (gTuple [R]) ε = .ok (.fro (rowC r)) ε) : F_own_part [fT ts, some (.fro HD), some (.fro dd)] = match atR rs r.1 with
    | some _ => .err (TK (dL t.1) (.int r.1)) [fT ts, some (.fro HD), some (.fro dd)]
    | none => .ok (.new (.tl [[], [], [.tuple [dL t.1, rowC r]]])) [fT ts, some (.fro HD), some (.fro dd)] := by
  have e := e_put hT hC hd ht hr hi h0 h1
  cases q : atR rs r.1 with
  | some r' =>
    rw [q] at e
    rcases hs with rfl | rfl
    · simp [F_own_part, B_own_part, seqD, kr_put, fr_put, e, ix0, ix1, dL]
    · simp [F_own_part, B_own_part, seqD, kr_put, fr_put, e, ix0, ix1, dL]
  | none =>
    rw [q] at e
    rcases hs with rfl | rfl
    · simp [F_own_part, B_own_part, seqD, kr_put, fr_put, e, ix0, ix1, dL]
    · simp [F_own_part, B_own_part, seqD, kr_put, fr_put, e, ix0, ix1, dL]
theorem o_drop {i : Int} {dd : D} (hs : isSeq dd [.str "drop", dL t.1, .int i]) (hi : Wd (.int i)) : F_own_part [fT ts, some (.fro HD), some (.fro dd)] = match atR rs i with
    | some _ => .ok (.new (.tl [[.tuple [dL t.1, .int i]], [], []])) [fT ts, some (.fro HD), some (.fro dd)]
    | none => .err (NR (dL t.1) (.int i)) [fT ts, some (.fro HD), some (.fro dd)] := by
  have e := e_drop hT hC hd ht hr hi
  cases q : atR rs i with
  | some r' =>
    rw [q] at e
    rcases hs with rfl | rfl
    · simp [F_own_part, B_own_part, seqD, kr_drop, fr_drop, e, ix0, ix1, dL]
    · simp [F_own_part, B_own_part, seqD, kr_drop, fr_drop, e, ix0, ix1, dL]
  | none =>
    rw [q] at e
    rcases hs with rfl | rfl
    · simp [F_own_part, B_own_part, seqD, kr_drop, fr_drop, e, ix0, ix1, dL]
    · simp [F_own_part, B_own_part, seqD, kr_drop, fr_drop, e, ix0, ix1, dL]
theorem o_set {i : Int} {j : Nat} {c : TC} {v dd : D} (hs : isSeq dd [.str "set", dL t.1, .int i, dL c.1, v]) (hi : Wd (.int i)) (hc : t.2[j]? = some c) (hv : Wd v) : F_own_part [fT ts, some (.fro HD), some (.fro dd)] = match atR rs i with
    | some r => .ok (.new (.tl [[], stR (dL t.1) (dL c.1) v r j, []])) [fT ts, some (.fro HD), some (.fro dd)]
    | none => .err (NR (dL t.1) (.int i)) [fT ts, some (.fro HD), some (.fro dd)] := by
  have e := e_set hT hC hd ht hr hi hc hv
  have it : itemsD (.list [.int i, dL c.1, v]) = some [.int i, dL c.1, v] := rfl
  cases q : atR rs i with
  | some r' =>
    rw [q] at e
    rcases hs with rfl | rfl
    · simp [F_own_part, B_own_part, seqD, kr_set, kc_set, e, dL]
    · simp [F_own_part, B_own_part, seqD, kr_set, kc_set, e, dL]
  | none =>
    rw [q] at e
    rcases hs with rfl | rfl
    · simp [F_own_part, B_own_part, seqD, kr_set, kc_set, e, dL]
    · simp [F_own_part, B_own_part, seqD, kr_set, kc_set, e, dL]
theorem o_sweep {j : Nat} {c : TC} {v dd : D} (hs : isSeq dd [.str "sweep", dL t.1, dL c.1, v]) (hc : t.2[j]? = some c) (hv : Wd v) : F_own_part [fT ts, some (.fro HD), some (.fro dd)] = .ok (.new (.tl [swR (dL t.1) rs j v, [], []])) [fT ts, some (.fro HD), some (.fro dd)] := by
  have e := e_sweep hT hC hd ht hr hc hv
  generalize swR (dL t.1) rs j v = Z at *
  rcases hs with rfl | rfl
  · simp [F_own_part, B_own_part, seqD, kr_sweep, kc_sweep, fc_sweep, e, ix0, ix1, dL]
  · simp [F_own_part, B_own_part, seqD, kr_sweep, kc_sweep, fc_sweep, e, ix0, ix1, dL]
theorem o_shift {j : Nat} {c : TC} {i : Int} {dd : D} (hs : isSeq dd [.str "shift", dL t.1, dL c.1, .int i]) (hc : t.2[j]? = some c) : F_own_part [fT ts, some (.fro HD), some (.fro dd)] = .ok (.new (.tl [[], shR (dL t.1) (dL c.1) rs j i, []])) [fT ts, some (.fro HD), some (.fro dd)] := by
  have e := e_shift hT hC hd ht hr hc (b := i)
  generalize shR (dL t.1) (dL c.1) rs j i = Z at *
  rcases hs with rfl | rfl
  · simp [F_own_part, B_own_part, seqD, kr_shift, kc_shift, fc_shift, e, ix0, ix1, dL]
  · simp [F_own_part, B_own_part, seqD, kr_shift, kc_shift, fc_shift, e, ix0, ix1, dL]
end
end GA

namespace GA
open PySem PySem.Spec L2 M3 M4 M5
open PyProof.Rows hiding St
open GC (lc_map lc_filtM zip_same gNe_bool sz_of trues trues2 Sw RX rowC rowsC RowOk RowsOk CtOk HdOk rowL H0 H1 H2 Handed wEq gEq_wd wEq_iff e_tp e_cp e_rows e_row rowOf fn_at gIdx_L handed_fi handed_hd two_okd plD NSx x_raise cellJ cell_ok gAdd_ll cut_from hd_cell hd_tp)
def Du1 : Sm := (sSet 3 (mBML gIndex (oE (mLc (mIt (fE (oE (mVar 0)))) (.nm 4) [4] mYes (fE (oE (mOp gIx (oE (mVar 4)) (oE (mC (.int 0)))))))) (msCons (oE (mOp gIx (oE (mVar 2)) (oE (mC (.int 1))))) msNil)))
def Du2 : Sm := (sPar [5, 6] (msCons (mOp gIx (oE (mVar 1)) (oE (mVar 3))) (msCons (mLc (mIt (fE (oE (mOp gIx (oE (mOp gIx (oE (mVar 0)) (oE (mVar 3)))) (oE (mC (.int 1))))))) (.nm 7) [7] mYes (fE (oE (mOp gIx (oE (mVar 7)) (oE (mC (.int 0))))))) msNil)))
def Du3 : Sm := (sPar [4, 8] (msCons (mOp gIx (oE (mVar 2)) (oE (mC (.int 1)))) (msCons (mLc (mIt (fE (oE (mOp gIx (oE (mVar 1)) (oE (mVar 3)))))) (.nm 9) [9] mYes (fE (oE (mOp gIx (oE (mVar 9)) (oE (mC (.int 0))))))) msNil)))
def Du4 : Sm := (sIf (mBl (mOp (bo gEq) (oE (mOp gIx (oE (mVar 2)) (oE (mC (.int 0))))) (oE (mC (.str "put"))))) (sSeq (sSet 10 (mOp (bo gIn) (oE (mOp gIx (oE (mOp gIx (oE (mVar 2)) (oE (mC (.int 2))))) (oE (mC (.int 0))))) (oE (mVar 8))))
    (sRet (mIfE (mTru (oE (mVar 10))) (mTup (dsCons (fE (oE (mC (.str "taken")))) (dsCons (fE (oE (mVar 4))) (dsCons (fE (oE (mOp gIx (oE (mOp gIx (oE (mVar 2)) (oE (mC (.int 2))))) (oE (mC (.int 0)))))) dsNil)))) (mTup (dsCons (fE (oE (mLst dsNil))) (dsCons (fE (oE (mLst dsNil))) (dsCons (fE (oE (mLst (dsCons (fE (oE (mTup (dsCons (fE (oE (mVar 4))) (dsCons (fE (oE (mOp gIx (oE (mVar 2)) (oE (mC (.int 2)))))) dsNil))))) dsNil)))) dsNil))))))) sNext)
def Du5 : Sm := (sIf (mAnd (mBl (mOp (bo gIn) (oE (mOp gIx (oE (mVar 2)) (oE (mC (.int 0))))) (oE (mTup (dsCons (fE (oE (mC (.str "drop")))) (dsCons (fE (oE (mC (.str "set")))) dsNil)))))) (mBl (mOp (bo gNotIn) (oE (mOp gIx (oE (mVar 2)) (oE (mC (.int 2))))) (oE (mVar 8))))) (sRet (mTup (dsCons (fE (oE (mC (.str "norow")))) (dsCons (fE (oE (mVar 4))) (dsCons (fE (oE (mOp gIx (oE (mVar 2)) (oE (mC (.int 2)))))) dsNil))))) sNext)
def Du6 : Sm := (sIf (mBl (mOp (bo gEq) (oE (mOp gIx (oE (mVar 2)) (oE (mC (.int 0))))) (oE (mC (.str "drop"))))) (sRet (mTup (dsCons (fE (oE (mLst (dsCons (fE (oE (mTup (dsCons (fE (oE (mVar 4))) (dsCons (fE (oE (mOp gIx (oE (mVar 2)) (oE (mC (.int 2)))))) dsNil))))) dsNil)))) (dsCons (fE (oE (mLst dsNil))) (dsCons (fE (oE (mLst dsNil))) dsNil))))) sNext)
def Du7 : Sm := (sUnp (fE (oE (mTup (dsCons (fE (oE (mOp gIx (oE (mVar 2)) (oE (mUn gNeg (oE (mC (.int 2)))))))) (dsCons (fE (oE (mOp gIx (oE (mVar 2)) (oE (mUn gNeg (oE (mC (.int 1)))))))) dsNil))))) (.tp [(.nm 7), (.nm 11)]))
def Du8 : Sm := (sSet 12 (mBML gIndex (oE (mVar 6)) (msCons (oE (mVar 7)) msNil)))
def Du9 : Sm := (sIf (mBl (mOp (bo gEq) (oE (mOp gIx (oE (mVar 2)) (oE (mC (.int 0))))) (oE (mC (.str "sweep"))))) (sRet (mTup (dsCons (fE (oE (mLc (mIt (fE (oE (mVar 5)))) (.nm 9) [9] (mBl (mOp (bo gEq) (oE (mOp gIx (oE (mVar 9)) (oE (mVar 12)))) (oE (mVar 11)))) (fE (oE (mTup (dsCons (fE (oE (mVar 4))) (dsCons (fE (oE (mOp gIx (oE (mVar 9)) (oE (mC (.int 0)))))) dsNil)))))))) (dsCons (fE (oE (mLst dsNil))) (dsCons (fE (oE (mLst dsNil))) dsNil))))) sNext)
def Du10 : Sm := (sSet 13 (mLst dsNil))
def Du11 : Sm := (sFor (mIt (fE (oE (mVar 5)))) (.nm 9) (sSeq (sSet 14 (mOp gIx (oE (mVar 9)) (oE (mVar 12))))
    (sSeq (sIf (mAnd (mBl (mOp (bo gEq) (oE (mOp gIx (oE (mVar 2)) (oE (mC (.int 0))))) (oE (mC (.str "shift"))))) (mBl (mOp (bo gNotN) (oE (mVar 14)) (oE (mC .none))))) (sSet 14 (mOp gAdd (oE (mVar 14)) (oE (mVar 11)))) sNext)
    (sSeq (sIf (mAnd (mBl (mOp (bo gEq) (oE (mOp gIx (oE (mVar 2)) (oE (mC (.int 0))))) (oE (mC (.str "set"))))) (mBl (mOp (bo gEq) (oE (mOp gIx (oE (mVar 9)) (oE (mC (.int 0))))) (oE (mOp gIx (oE (mVar 2)) (oE (mC (.int 2)))))))) (sSet 14 (mVar 11)) sNext)
    (sIf (mBl (mOp (bo gNe) (oE (mVar 14)) (oE (mOp gIx (oE (mVar 9)) (oE (mVar 12)))))) (sAppend 13 (fE (oE (mTup (dsCons (fE (oE (mVar 4))) (dsCons (fE (oE (mOp gIx (oE (mVar 9)) (oE (mC (.int 0)))))) (dsCons (fE (oE (mVar 7))) (dsCons (fE (oE (mVar 14))) dsNil)))))))) sNext)))))
def Du12 : Sm := (sRet (mTup (dsCons (fE (oE (mLst dsNil))) (dsCons (fE (oE (mVar 13))) (dsCons (fE (oE (mLst dsNil))) dsNil)))))

def DuR : Sm := (sSeq Du4 (sSeq Du5 (sSeq Du6 (sSeq Du7 (sSeq Du8 (sSeq Du9 (sSeq Du10 (sSeq Du11 Du12))))))))
theorem B_law_due_is : B_law_due = sSeq Du1 (sSeq Du2 (sSeq Du3 DuR)) := rfl
def Db : Sm := (sSeq (sSet 14 (mOp gIx (oE (mVar 9)) (oE (mVar 12))))
    (sSeq (sIf (mAnd (mBl (mOp (bo gEq) (oE (mOp gIx (oE (mVar 2)) (oE (mC (.int 0))))) (oE (mC (.str "shift"))))) (mBl (mOp (bo gNotN) (oE (mVar 14)) (oE (mC .none))))) (sSet 14 (mOp gAdd (oE (mVar 14)) (oE (mVar 11)))) sNext)
    (sSeq (sIf (mAnd (mBl (mOp (bo gEq) (oE (mOp gIx (oE (mVar 2)) (oE (mC (.int 0))))) (oE (mC (.str "set"))))) (mBl (mOp (bo gEq) (oE (mOp gIx (oE (mVar 9)) (oE (mC (.int 0))))) (oE (mOp gIx (oE (mVar 2)) (oE (mC (.int 2)))))))) (sSet 14 (mVar 11)) sNext)
    (sIf (mBl (mOp (bo gNe) (oE (mVar 14)) (oE (mOp gIx (oE (mVar 9)) (oE (mVar 12)))))) (sAppend 13 (fE (oE (mTup (dsCons (fE (oE (mVar 4))) (dsCons (fE (oE (mOp gIx (oE (mVar 9)) (oE (mC (.int 0)))))) (dsCons (fE (oE (mVar 7))) (dsCons (fE (oE (mVar 14))) dsNil)))))))) sNext))))
theorem Du11_is : Du11 = sFor (mIt (fE (oE (mVar 5)))) (.nm 9) Db := rfl
theorem gNe_of {a b : D} {x : Bool} (h : gEq a b = some x) : gNe a b = some (!x) := by
  unfold gEq at h
  unfold gNe
  split
  · next c => rw [if_pos c] at h; injection h with h; rw [h]
  · next c => rw [if_neg c] at h; rw [h]; rfl
theorem wEq_sym (a b : D) : wEq a b = wEq b a := by
  cases a <;> cases b <;> simp [wEq]
  exact Bool.eq_iff_iff.mpr ⟨fun h => by simpa using (by simpa using h : _ = _).symm, fun h => by simpa using (by simpa using h : _ = _).symm⟩
theorem gIn_at (rs : List RX) (i : Int) : gIn (.int i) (.list (rs.map fun r : RX => PyData.int r.1)) = some (atR rs i).isSome := by
  have hs : SeqAt.shaped (.list (rs.map fun r : RX => PyData.int r.1)) = true := by
    have := M5.sh_ints (rs.map (·.1))
    rw [List.map_map] at this
    exact this
  have e : gIn (.int i) (.list (rs.map fun r : RX => PyData.int r.1)) = (if SeqAt.shaped (.int i) = true ∧ SeqAt.shaped (.list (rs.map fun r : RX => PyData.int r.1)) = true then some ((rs.map fun r : RX => PyData.int r.1).any fun z => PyData.eqv z (.int i)) else none) := rfl
  rw [e, if_pos ⟨sh_int i, hs⟩, List.any_map]
  congr 1
  unfold atR
  rw [Bool.eq_iff_iff, List.any_eq_true, List.find?_isSome]
  simp [PyData.eqv]
def E3 (ts : List M5.TT) (ct : List (List RX)) (d : D) (k : Nat) (t : M5.TT) (rs : List RX) : En :=
  [fT ts, some (.own (.lst (ct.map rowsC))), some (.fro d), fI k, some (.fro (dL t.1)), some (.fro (rowsC rs)), some (.own (.lst (t.2.map fun c => dL c.1))), none, some (.own (.lst (rs.map fun r : RX => PyData.int r.1))), none, none, none, none, none, none]
section
variable {ts : List M5.TT} (hT : GoodT ts) (hl : ts.length ≤ 100) {ct : List (List RX)} (hC : CtOk ts ct)
  {k : Nat} {t : M5.TT} {rs : List RX} (ht : ts[k]? = some t) (hr : ct[k]? = some rs)
include hT hl hC ht hr
theorem due_pre {d : D} (g1 : gIx d (.int 1) = some (.val (dL t.1))) : B_law_due [fT ts, some (.own (.lst (ct.map rowsC))), some (.fro d), none, none, none, none, none, none, none, none, none, none, none, none] = DuR (E3 ts ct d k t rs) := by
  have gt := hT.g t (List.mem_of_getElem? ht)
  have ro := hC.g k t rs ht hr
  have c1 := lc_map (p := .nm 4) (vs := [4]) (m := fE (oE (mOp gIx (oE (mVar 4)) (oE (mC (.int 0)))))) (g := tblD) (f := fun t => dL t.1) (ε := [fT ts, some (.own (.lst (ct.map rowsC))), some (.fro d), none, none, none, none, none, none, none, none, none, none, none, none]) (xs := ts) (acc := [])
    (fun s _ => by
      have g : gIx (tblD s) (.int 0) = some (.val (dL s.1)) := by simp [tblD, gIx, atI, ixN]
      generalize ct.map rowsC = F at *
      exact ⟨[fT ts, some (.own (.lst F)), some (.fro d), none, some (.fro (tblD s)), none, none, none, none, none, none, none, none, none, none], [fT ts, some (.own (.lst F)), some (.fro d), none, some (.fro (tblD s)), none, none, none, none, none, none, none, none, none, none], by simp, by simp [g], by simp⟩) (by simpa using sz_of (by omega))
  have em : (ts.map fun t => dL t.1) = (ts.map (·.1)).map dL := by rw [List.map_map]; rfl
  have gi := gIdx_L hT.nd (k := k) (x := t.1) (by rw [List.getElem?_map, ht]; rfl)
  rw [List.nil_append] at c1
  rw [← em] at gi
  have i1 : gIx (.list (ct.map rowsC)) (.int (k : Int)) = some (.val (rowsC rs)) := gIx_ln (by rw [List.getElem?_map, hr]; rfl)
  have i2 : gIx (.tuple (ts.map tblD)) (.int (k : Int)) = some (.val (tblD t)) := gIx_t (by rw [List.getElem?_map, ht]; rfl)
  have i3 : gIx (tblD t) (.int 1) = some (.val (.tuple (t.2.map colD))) := by simp [tblD, gIx, atI, ixN]
  have it : itemsD (.tuple (ts.map tblD)) = some (ts.map tblD) := rfl
  have it2 : itemsD (.tuple (t.2.map colD)) = some (t.2.map colD) := rfl
  have it3 : itemsD (rowsC rs) = some (rs.map rowC) := rfl
  have f1 : Du1 [fT ts, some (.own (.lst (ct.map rowsC))), some (.fro d), none, none, none, none, none, none, none, none, none, none, none, none] = .nx [fT ts, some (.own (.lst (ct.map rowsC))), some (.fro d), fI k, none, none, none, none, none, none, none, none, none, none, none] := by
    generalize ct.map rowsC = F at *
    generalize ts.map (fun t => dL t.1) = G at *
    simp [Du1, it, c1, g1, gi]
  have c2 := lc_map (p := .nm 7) (vs := [7]) (m := fE (oE (mOp gIx (oE (mVar 7)) (oE (mC (.int 0)))))) (g := colD) (f := fun c => dL c.1) (ε := [fT ts, some (.own (.lst (ct.map rowsC))), some (.fro d), fI k, none, none, none, none, none, none, none, none, none, none, none]) (xs := t.2) (acc := [])
    (fun s _ => by
      have g : gIx (colD s) (.int 0) = some (.val (dL s.1)) := by simp [colD, gIx, atI, ixN]
      generalize ct.map rowsC = F at *
      exact ⟨[fT ts, some (.own (.lst F)), some (.fro d), fI k, none, none, none, some (.fro (colD s)), none, none, none, none, none, none, none], [fT ts, some (.own (.lst F)), some (.fro d), fI k, none, none, none, some (.fro (colD s)), none, none, none, none, none, none, none], by simp, by simp [g], by simp⟩) (by have := gt.2.l; simpa using sz_of (by omega))
  rw [List.nil_append] at c2
  have f2 : Du2 [fT ts, some (.own (.lst (ct.map rowsC))), some (.fro d), fI k, none, none, none, none, none, none, none, none, none, none, none] = .nx [fT ts, some (.own (.lst (ct.map rowsC))), some (.fro d), fI k, none, some (.fro (rowsC rs)), some (.own (.lst (t.2.map fun c => dL c.1))), none, none, none, none, none, none, none, none] := by
    generalize ct.map rowsC = F at *
    generalize t.2.map (fun c => dL c.1) = G at *
    generalize rowsC rs = RR at *
    simp [Du2, i1, i2, i3, it2, c2]
  have c3 := lc_map (p := .nm 9) (vs := [9]) (m := fE (oE (mOp gIx (oE (mVar 9)) (oE (mC (.int 0)))))) (g := rowC) (f := fun r : RX => PyData.int r.1) (ε := [fT ts, some (.own (.lst (ct.map rowsC))), some (.fro d), fI k, none, some (.fro (rowsC rs)), some (.own (.lst (t.2.map fun c => dL c.1))), none, none, none, none, none, none, none, none]) (xs := rs) (acc := [])
    (fun s _ => by
      have g : gIx (rowC s) (.int 0) = some (.val (.int s.1)) := by simp [rowC, gIx, atI, ixN]
      generalize ct.map rowsC = F at *
      generalize rowsC rs = RR at *
      generalize t.2.map (fun c => dL c.1) = G at *
      exact ⟨[fT ts, some (.own (.lst F)), some (.fro d), fI k, none, some (.fro RR), some (.own (.lst G)), none, none, some (.fro (rowC s)), none, none, none, none, none], [fT ts, some (.own (.lst F)), some (.fro d), fI k, none, some (.fro RR), some (.own (.lst G)), none, none, some (.fro (rowC s)), none, none, none, none, none], by simp, by simp [g], by simp⟩) (by have := ro.l; simpa using sz_of (by omega))
  rw [List.nil_append] at c3
  have f3 : Du3 [fT ts, some (.own (.lst (ct.map rowsC))), some (.fro d), fI k, none, some (.fro (rowsC rs)), some (.own (.lst (t.2.map fun c => dL c.1))), none, none, none, none, none, none, none, none] = .nx (E3 ts ct d k t rs) := by
    unfold E3
    generalize ct.map rowsC = F at *
    generalize t.2.map (fun c => dL c.1) = G at *
    generalize rs.map (fun r => PyData.int r.1) = G3 at *
    generalize rowsC rs = RR at *
    simp [Du3, i1, g1, it3, c3]
  rw [B_law_due_is, x_seq, f1, x_q1, x_seq, f2, x_q1, x_seq, f3, x_q1]
end
end GA

namespace GA
open PySem PySem.Spec L2 M3 M4 M5
open PyProof.Rows hiding St
open GC (lc_map lc_filtM zip_same gNe_bool sz_of trues trues2 Sw RX rowC rowsC RowOk RowsOk CtOk HdOk rowL H0 H1 H2 Handed wEq gEq_wd wEq_iff e_tp e_cp e_rows e_row rowOf fn_at gIdx_L handed_fi handed_hd two_okd plD NSx x_raise cellJ cell_ok gAdd_ll cut_from hd_cell hd_tp)
theorem q_put_put : gEq (.str "put") (.str "put") = some true := by decide +kernel
theorem q_drop_put : gEq (.str "drop") (.str "put") = some false := by decide +kernel
theorem q_drop_drop : gEq (.str "drop") (.str "drop") = some true := by decide +kernel
theorem q_drop : gIn (.str "drop") (.tuple [.str "drop", .str "set"]) = some true := by decide +kernel
theorem q_set_put : gEq (.str "set") (.str "put") = some false := by decide +kernel
theorem q_set_drop : gEq (.str "set") (.str "drop") = some false := by decide +kernel
theorem q_set_sweep : gEq (.str "set") (.str "sweep") = some false := by decide +kernel
theorem q_set_shift : gEq (.str "set") (.str "shift") = some false := by decide +kernel
theorem q_set_set : gEq (.str "set") (.str "set") = some true := by decide +kernel
theorem q_set : gIn (.str "set") (.tuple [.str "drop", .str "set"]) = some true := by decide +kernel
theorem q_sweep_put : gEq (.str "sweep") (.str "put") = some false := by decide +kernel
theorem q_sweep_drop : gEq (.str "sweep") (.str "drop") = some false := by decide +kernel
theorem q_sweep_sweep : gEq (.str "sweep") (.str "sweep") = some true := by decide +kernel
theorem q_sweep : gIn (.str "sweep") (.tuple [.str "drop", .str "set"]) = some false := by decide +kernel
theorem q_shift_put : gEq (.str "shift") (.str "put") = some false := by decide +kernel
theorem q_shift_drop : gEq (.str "shift") (.str "drop") = some false := by decide +kernel
theorem q_shift_sweep : gEq (.str "shift") (.str "sweep") = some false := by decide +kernel
theorem q_shift_shift : gEq (.str "shift") (.str "shift") = some true := by decide +kernel
theorem q_shift_set : gEq (.str "shift") (.str "set") = some false := by decide +kernel
theorem q_shift : gIn (.str "shift") (.tuple [.str "drop", .str "set"]) = some false := by decide +kernel
def dueE (d : D) (ts : List M5.TT) (ct : List (List RX)) : En := [fT ts, some (.own (.lst (ct.map rowsC))), some (.fro d)]
def Due (d : D) (ts : List M5.TT) (ct : List (List RX)) (x : D) : Prop := F_law_due (dueE d ts ct) = .ok (.fro x) (dueE d ts ct)
section
variable {ts : List M5.TT} (hT : GoodT ts) (hl : ts.length ≤ 100) {ct : List (List RX)} (hC : CtOk ts ct)
  {k : Nat} {t : M5.TT} {rs : List RX} (ht : ts[k]? = some t) (hr : ct[k]? = some rs)
include hT hl hC ht hr
theorem due_of {d x : D} {ε' : En} (g1 : gIx d (.int 1) = some (.val (dL t.1))) (h : DuR (E3 ts ct d k t rs) = .rt (.fro x) ε') (h2 : outE [0, 1, 2] ε' 0 (dueE d ts ct) = dueE d ts ct) : Due d ts ct x := by
  have e := due_pre hT hl hC ht hr g1
  unfold Due F_law_due
  refine fn_rt (E := [fT ts, some (.own (.lst (ct.map rowsC))), some (.fro d), none, none, none, none, none, none, none, none, none, none, none, none]) (ε' := ε') rfl (by simp [dueE]) rfl (e.trans h) h2
theorem due_put {r : RX} : Due (.tuple [.str "put", dL t.1, rowC r]) ts ct (match atR rs r.1 with
    | some _ => .tuple [.str "taken", dL t.1, .int r.1]
    | none => .tuple [.list [], .list [], .list [.tuple [dL t.1, rowC r]]]) := by
  have g0 : gIx (.tuple [.str "put", dL t.1, rowC r]) (.int 0) = some (.val (.str "put")) := gIx_t (k := 0) rfl
  have g1 : gIx (.tuple [.str "put", dL t.1, rowC r]) (.int 1) = some (.val (dL t.1)) := gIx_t (k := 1) rfl
  have g2 : gIx (.tuple [.str "put", dL t.1, rowC r]) (.int 2) = some (.val (rowC r)) := gIx_t (k := 2) rfl
  have gr : gIx (rowC r) (.int 0) = some (.val (.int r.1)) := by simp [rowC, gIx, atI, ixN]
  have gi := gIn_at rs r.1
  have z0 : (0 : Nat) ≤ sizeLine := sz_of (by omega)
  have z1 : (1 : Nat) ≤ sizeLine := sz_of (by omega)
  have z2 : (2 : Nat) ≤ sizeLine := sz_of (by omega)
  have z3 : (3 : Nat) ≤ sizeLine := sz_of (by omega)
  refine due_of hT hl hC ht hr g1 (ε' := [fT ts, some (.own (.lst (ct.map rowsC))), some (.fro (.tuple [.str "put", dL t.1, rowC r])), fI k, some (.fro (dL t.1)), some (.fro (rowsC rs)), some (.own (.lst (t.2.map fun c => dL c.1))), none, some (.own (.lst (rs.map fun r : RX => PyData.int r.1))), none, some (.fro (.bool (atR rs r.1).isSome)), none, none, none, none]) ?_ rfl
  unfold E3 DuR
  generalize hd : PyData.tuple [.str "put", dL t.1, rowC r] = d at *
  generalize rowC r = R at *
  cases q : atR rs r.1 with
  | some r' =>
    rw [q] at gi
    generalize ct.map rowsC = F at *
    generalize t.2.map (fun c => dL c.1) = G at *
    generalize rs.map (fun r => PyData.int r.1) = G3 at *
    generalize rowsC rs = RR at *
    simp [Du4, g0, q_put_put, g2, gr, gi, z3]
  | none =>
    rw [q] at gi
    generalize ct.map rowsC = F at *
    generalize t.2.map (fun c => dL c.1) = G at *
    generalize rs.map (fun r => PyData.int r.1) = G3 at *
    generalize rowsC rs = RR at *
    simp [Du4, g0, q_put_put, g2, gr, gi, z0, z1, z2, z3]
theorem due_drop {i : Int} : Due (.tuple [.str "drop", dL t.1, .int i]) ts ct (match atR rs i with
    | some _ => .tuple [.list [.tuple [dL t.1, .int i]], .list [], .list []]
    | none => .tuple [.str "norow", dL t.1, .int i]) := by
  have g0 : gIx (.tuple [.str "drop", dL t.1, .int i]) (.int 0) = some (.val (.str "drop")) := gIx_t (k := 0) rfl
  have g1 : gIx (.tuple [.str "drop", dL t.1, .int i]) (.int 1) = some (.val (dL t.1)) := gIx_t (k := 1) rfl
  have g2 : gIx (.tuple [.str "drop", dL t.1, .int i]) (.int 2) = some (.val (.int i)) := gIx_t (k := 2) rfl
  have gi := gIn_at rs i
  have z0 : (0 : Nat) ≤ sizeLine := sz_of (by omega)
  have z1 : (1 : Nat) ≤ sizeLine := sz_of (by omega)
  have z2 : (2 : Nat) ≤ sizeLine := sz_of (by omega)
  have z3 : (3 : Nat) ≤ sizeLine := sz_of (by omega)
  refine due_of hT hl hC ht hr g1 (ε' := [fT ts, some (.own (.lst (ct.map rowsC))), some (.fro (.tuple [.str "drop", dL t.1, .int i])), fI k, some (.fro (dL t.1)), some (.fro (rowsC rs)), some (.own (.lst (t.2.map fun c => dL c.1))), none, some (.own (.lst (rs.map fun r : RX => PyData.int r.1))), none, none, none, none, none, none]) ?_ rfl
  unfold E3 DuR
  generalize hd : PyData.tuple [.str "drop", dL t.1, .int i] = d at *
  cases q : atR rs i with
  | some r' =>
    rw [q] at gi
    have gn : gNotIn (.int i) (.list (rs.map fun r : RX => PyData.int r.1)) = some false := by unfold gNotIn; rw [gi]; rfl
    generalize ct.map rowsC = F at *
    generalize t.2.map (fun c => dL c.1) = G at *
    generalize rs.map (fun r => PyData.int r.1) = G3 at *
    generalize rowsC rs = RR at *
    simp [Du4, Du5, Du6, g0, q_drop_put, q_drop, q_drop_drop, g2, gn, z0, z1, z2, z3]
  | none =>
    rw [q] at gi
    have gn : gNotIn (.int i) (.list (rs.map fun r : RX => PyData.int r.1)) = some true := by unfold gNotIn; rw [gi]; rfl
    generalize ct.map rowsC = F at *
    generalize t.2.map (fun c => dL c.1) = G at *
    generalize rs.map (fun r => PyData.int r.1) = G3 at *
    generalize rowsC rs = RR at *
    simp [Du4, Du5, Du6, g0, q_drop_put, q_drop, q_drop_drop, g2, gn, z0, z1, z2, z3]
theorem due_mid {d v : D} {j : Nat} {c : TC} (hc : t.2[j]? = some c) (g1 : gIx d (.int (-2)) = some (.val (dL c.1))) (g2 : gIx d (.int (-1)) = some (.val v)) (S : Sm) : (sSeq Du7 (sSeq Du8 S)) [fT ts, some (.own (.lst (ct.map rowsC))), some (.fro d), fI k, some (.fro (dL t.1)), some (.fro (rowsC rs)), some (.own (.lst (t.2.map fun c => dL c.1))), none, some (.own (.lst (rs.map fun r : RX => PyData.int r.1))), none, none, none, none, none, none] = S [fT ts, some (.own (.lst (ct.map rowsC))), some (.fro d), fI k, some (.fro (dL t.1)), some (.fro (rowsC rs)), some (.own (.lst (t.2.map fun c => dL c.1))), some (.fro (dL c.1)), some (.own (.lst (rs.map fun r : RX => PyData.int r.1))), none, none, some (.fro v), fI j, none, none] := by
  have gt := hT.g t (List.mem_of_getElem? ht)
  have gi := gIdx_L gt.2.nd (k := j) (x := c.1) (by rw [List.getElem?_map, hc]; rfl)
  have em : (t.2.map fun c => dL c.1) = (t.2.map (·.1)).map dL := by rw [List.map_map]; rfl
  rw [← em] at gi
  have z2 : (2 : Nat) ≤ sizeLine := sz_of (by omega)
  have n1 : gNeg (.int 1) = some (.val (.int (-1))) := rfl
  have n2 : gNeg (.int 2) = some (.val (.int (-2))) := rfl
  have f7 : Du7 [fT ts, some (.own (.lst (ct.map rowsC))), some (.fro d), fI k, some (.fro (dL t.1)), some (.fro (rowsC rs)), some (.own (.lst (t.2.map fun c => dL c.1))), none, some (.own (.lst (rs.map fun r : RX => PyData.int r.1))), none, none, none, none, none, none] = .nx [fT ts, some (.own (.lst (ct.map rowsC))), some (.fro d), fI k, some (.fro (dL t.1)), some (.fro (rowsC rs)), some (.own (.lst (t.2.map fun c => dL c.1))), some (.fro (dL c.1)), some (.own (.lst (rs.map fun r : RX => PyData.int r.1))), none, none, some (.fro v), none, none, none] := by
    generalize ct.map rowsC = F at *
    generalize t.2.map (fun c => dL c.1) = G at *
    generalize rs.map (fun r => PyData.int r.1) = G3 at *
    generalize rowsC rs = RR at *
    simp [Du7, n1, n2, g1, g2, z2]
  have f8 : Du8 [fT ts, some (.own (.lst (ct.map rowsC))), some (.fro d), fI k, some (.fro (dL t.1)), some (.fro (rowsC rs)), some (.own (.lst (t.2.map fun c => dL c.1))), some (.fro (dL c.1)), some (.own (.lst (rs.map fun r : RX => PyData.int r.1))), none, none, some (.fro v), none, none, none] = .nx [fT ts, some (.own (.lst (ct.map rowsC))), some (.fro d), fI k, some (.fro (dL t.1)), some (.fro (rowsC rs)), some (.own (.lst (t.2.map fun c => dL c.1))), some (.fro (dL c.1)), some (.own (.lst (rs.map fun r : RX => PyData.int r.1))), none, none, some (.fro v), fI j, none, none] := by
    generalize ct.map rowsC = F at *
    generalize t.2.map (fun c => dL c.1) = G at *
    generalize rs.map (fun r => PyData.int r.1) = G3 at *
    generalize rowsC rs = RR at *
    simp [Du8, gi]
  rw [x_seq, f7, x_q1, x_seq, f8, x_q1]
theorem due_sweep {j : Nat} {c : TC} {v : D} (hc : t.2[j]? = some c) (hv : Wd v) : Due (.tuple [.str "sweep", dL t.1, dL c.1, v]) ts ct (.tuple [.list (swR (dL t.1) rs j v), .list [], .list []]) := by
  have g0 : gIx (.tuple [.str "sweep", dL t.1, dL c.1, v]) (.int 0) = some (.val (.str "sweep")) := gIx_t (k := 0) rfl
  have g1 : gIx (.tuple [.str "sweep", dL t.1, dL c.1, v]) (.int 1) = some (.val (dL t.1)) := gIx_t (k := 1) rfl
  have g2 : gIx (.tuple [.str "sweep", dL t.1, dL c.1, v]) (.int (-2)) = some (.val (dL c.1)) := by simp [gIx, atI, ixN]
  have g3 : gIx (.tuple [.str "sweep", dL t.1, dL c.1, v]) (.int (-1)) = some (.val v) := by simp [gIx, atI, ixN]
  have ro := hC.g k t rs ht hr
  have z0 : (0 : Nat) ≤ sizeLine := sz_of (by omega)
  have z2 : (2 : Nat) ≤ sizeLine := sz_of (by omega)
  have z3 : (3 : Nat) ≤ sizeLine := sz_of (by omega)
  have mid := fun S => due_mid hT hl hC ht hr hc g2 g3 S
  refine due_of hT hl hC ht hr g1 (ε' := [fT ts, some (.own (.lst (ct.map rowsC))), some (.fro (.tuple [.str "sweep", dL t.1, dL c.1, v])), fI k, some (.fro (dL t.1)), some (.fro (rowsC rs)), some (.own (.lst (t.2.map fun c => dL c.1))), some (.fro (dL c.1)), some (.own (.lst (rs.map fun r : RX => PyData.int r.1))), none, none, some (.fro v), fI j, none, none]) ?_ rfl
  unfold E3 DuR
  generalize hd : PyData.tuple [.str "sweep", dL t.1, dL c.1, v] = d at *
  have f4 : Du4 [fT ts, some (.own (.lst (ct.map rowsC))), some (.fro d), fI k, some (.fro (dL t.1)), some (.fro (rowsC rs)), some (.own (.lst (t.2.map fun c => dL c.1))), none, some (.own (.lst (rs.map fun r : RX => PyData.int r.1))), none, none, none, none, none, none] = .nx [fT ts, some (.own (.lst (ct.map rowsC))), some (.fro d), fI k, some (.fro (dL t.1)), some (.fro (rowsC rs)), some (.own (.lst (t.2.map fun c => dL c.1))), none, some (.own (.lst (rs.map fun r : RX => PyData.int r.1))), none, none, none, none, none, none] := by
    generalize ct.map rowsC = F at *
    generalize t.2.map (fun c => dL c.1) = G at *
    generalize rs.map (fun r => PyData.int r.1) = G3 at *
    generalize rowsC rs = RR at *
    simp [Du4, g0, q_sweep_put]
  have f5 : Du5 [fT ts, some (.own (.lst (ct.map rowsC))), some (.fro d), fI k, some (.fro (dL t.1)), some (.fro (rowsC rs)), some (.own (.lst (t.2.map fun c => dL c.1))), none, some (.own (.lst (rs.map fun r : RX => PyData.int r.1))), none, none, none, none, none, none] = .nx [fT ts, some (.own (.lst (ct.map rowsC))), some (.fro d), fI k, some (.fro (dL t.1)), some (.fro (rowsC rs)), some (.own (.lst (t.2.map fun c => dL c.1))), none, some (.own (.lst (rs.map fun r : RX => PyData.int r.1))), none, none, none, none, none, none] := by
    generalize ct.map rowsC = F at *
    generalize t.2.map (fun c => dL c.1) = G at *
    generalize rs.map (fun r => PyData.int r.1) = G3 at *
    generalize rowsC rs = RR at *
    simp [Du5, g0, q_sweep, z2]
  have f6 : Du6 [fT ts, some (.own (.lst (ct.map rowsC))), some (.fro d), fI k, some (.fro (dL t.1)), some (.fro (rowsC rs)), some (.own (.lst (t.2.map fun c => dL c.1))), none, some (.own (.lst (rs.map fun r : RX => PyData.int r.1))), none, none, none, none, none, none] = .nx [fT ts, some (.own (.lst (ct.map rowsC))), some (.fro d), fI k, some (.fro (dL t.1)), some (.fro (rowsC rs)), some (.own (.lst (t.2.map fun c => dL c.1))), none, some (.own (.lst (rs.map fun r : RX => PyData.int r.1))), none, none, none, none, none, none] := by
    generalize ct.map rowsC = F at *
    generalize t.2.map (fun c => dL c.1) = G at *
    generalize rs.map (fun r => PyData.int r.1) = G3 at *
    generalize rowsC rs = RR at *
    simp [Du6, g0, q_sweep_drop]
  have e := lc_filtM (p := .nm 9) (vs := [9]) (c := mBl (mOp (bo gEq) (oE (mOp gIx (oE (mVar 9)) (oE (mVar 12)))) (oE (mVar 11)))) (m := fE (oE (mTup (dsCons (fE (oE (mVar 4))) (dsCons (fE (oE (mOp gIx (oE (mVar 9)) (oE (mC (.int 0)))))) dsNil))))) (g := rowC) (f := fun r => PyData.tuple [dL t.1, .int r.1]) (q := fun r => wEq (cellJ r j) v)
    (ε := [fT ts, some (.own (.lst (ct.map rowsC))), some (.fro d), fI k, some (.fro (dL t.1)), some (.fro (rowsC rs)), some (.own (.lst (t.2.map fun c => dL c.1))), some (.fro (dL c.1)), some (.own (.lst (rs.map fun r : RX => PyData.int r.1))), none, none, some (.fro v), fI j, none, none]) (xs := rs) (acc := [])
    (fun r hrr => by
      obtain ⟨c1, c2⟩ := cell_ok (ro.r r hrr) (lt_get hc)
      have h1 : gIx (rowC r) (.int (j : Int)) = some (.val (cellJ r j)) := gIx_t c1
      have h0 : gIx (rowC r) (.int 0) = some (.val (.int r.1)) := by simp [rowC, gIx, atI, ixN]
      have h2 := gEq_wd c2 hv
      generalize ct.map rowsC = F at *
      generalize t.2.map (fun c => dL c.1) = G at *
      generalize rs.map (fun r => PyData.int r.1) = G3 at *
      generalize rowsC rs = RR at *
      exact ⟨[fT ts, some (.own (.lst F)), some (.fro d), fI k, some (.fro (dL t.1)), some (.fro RR), some (.own (.lst G)), some (.fro (dL c.1)), some (.own (.lst G3)), some (.fro (rowC r)), none, some (.fro v), fI j, none, none], [fT ts, some (.own (.lst F)), some (.fro d), fI k, some (.fro (dL t.1)), some (.fro RR), some (.own (.lst G)), some (.fro (dL c.1)), some (.own (.lst G3)), some (.fro (rowC r)), none, some (.fro v), fI j, none, none], by simp, by simp [h1, h2], by simp, fun _ => ⟨[fT ts, some (.own (.lst F)), some (.fro d), fI k, some (.fro (dL t.1)), some (.fro RR), some (.own (.lst G)), some (.fro (dL c.1)), some (.own (.lst G3)), some (.fro (rowC r)), none, some (.fro v), fI j, none, none], by simp [h0, z2], by simp⟩⟩)
    (by have := ro.l; simpa using sz_of (by omega))
  rw [List.nil_append] at e
  have e2 : (rs.filter fun r => wEq (cellJ r j) v).map (fun r => PyData.tuple [dL t.1, .int r.1]) = swR (dL t.1) rs j v := rfl
  rw [e2] at e
  have it : itemsD (rowsC rs) = some (rs.map rowC) := rfl
  rw [x_seq, f4, x_q1, x_seq, f5, x_q1, x_seq, f6, x_q1, mid, x_seq]
  generalize swR (dL t.1) rs j v = Z at *
  generalize rs.map rowC = RM at *
  generalize ct.map rowsC = F at *
  generalize t.2.map (fun c => dL c.1) = G at *
  generalize rs.map (fun r => PyData.int r.1) = G3 at *
  generalize rowsC rs = RR at *
  simp [Du9, g0, q_sweep_sweep, it, e, z0, z3]
end
end GA

namespace GA
open PySem PySem.Spec L2 M3 M4 M5
open PyProof.Rows hiding St
open GC (lc_map lc_filtM zip_same gNe_bool sz_of trues trues2 Sw RX rowC rowsC RowOk RowsOk CtOk HdOk rowL H0 H1 H2 Handed wEq gEq_wd wEq_iff e_tp e_cp e_rows e_row rowOf fn_at gIdx_L handed_fi handed_hd two_okd plD NSx x_raise cellJ cell_ok gAdd_ll cut_from hd_cell hd_tp)
def EL (ts : List M5.TT) (ct : List (List RX)) (d : D) (k : Nat) (t : M5.TT) (rs : List RX) (c : TC) (v : D) (j : Nat) (x9 : Option SV) (acc : List D) (x14 : Option SV) : En := [fT ts, some (.own (.lst (ct.map rowsC))), some (.fro d), fI k, some (.fro (dL t.1)), some (.fro (rowsC rs)), some (.own (.lst (t.2.map fun c => dL c.1))), some (.fro (dL c.1)), some (.own (.lst (rs.map fun r : RX => PyData.int r.1))), x9, none, some (.fro v), fI j, some (.own (.lst acc)), x14]
theorem db_loop {ts : List M5.TT} {ct : List (List RX)} {d : D} {k : Nat} {t : M5.TT} {rs : List RX} {c : TC} {v : D} {j : Nat} (ne : RX → Bool) (f made : RX → D) : ∀ (l : List RX) (acc : List D) (x9 x14 : Option SV),
    (∀ r ∈ l, ∀ (acc : List D) (x14 : Option SV), acc.length < 1000 → Db (EL ts ct d k t rs c v j (some (.fro (rowC r))) acc x14) = .nx (EL ts ct d k t rs c v j (some (.fro (rowC r))) (acc ++ if ne r = true then [f r] else []) (some (.fro (made r))))) → acc.length + l.length ≤ 1000 →
    ∃ x9' x14', sLoop (.nm 9) Db (l.map rowC) (EL ts ct d k t rs c v j x9 acc x14) = .nx (EL ts ct d k t rs c v j x9' (acc ++ (l.filter ne).map f) x14')
  | [], acc, x9, x14, _, _ => ⟨x9, x14, by simp [sLoop]⟩
  | r :: l, acc, x9, x14, h, hl => by
    rw [List.length_cons] at hl
    have e := h r List.mem_cons_self acc x14 (by omega)
    obtain ⟨y9, y14, e2⟩ := db_loop ne f made l (acc ++ if ne r = true then [f r] else []) (some (.fro (rowC r))) (some (.fro (made r))) (fun r hr => h r (List.mem_cons_of_mem _ hr)) (by
      rw [List.length_append]
      split
      · rw [List.length_singleton]; omega
      · simp; omega)
    refine ⟨y9, y14, ?_⟩
    rw [List.map_cons]
    unfold sLoop
    have b : bindP (.nm 9) (rowC r) (EL ts ct d k t rs c v j x9 acc x14) = some (EL ts ct d k t rs c v j (some (.fro (rowC r))) acc x14) := by
      unfold EL
      simp
    rw [b]
    dsimp only
    rw [e]
    dsimp only
    rw [e2, List.filter_cons]
    cases ne r <;> simp
theorem at_filt {i : Int} (q : RX → Bool) : ∀ {rs : List RX}, (rs.map (·.1)).Pairwise (· < ·) → rs.filter (fun r => r.1 == i && q r) = match atR rs i with
    | some r => if q r = true then [r] else []
    | none => []
  | [], _ => rfl
  | r :: rs, h => by
    rw [List.map_cons, List.pairwise_cons] at h
    have ih := at_filt (i := i) q h.2
    unfold atR at ih ⊢
    rw [List.filter_cons, List.find?_cons]
    by_cases e : r.1 = i
    · have hb : (r.1 == i) = true := by simpa using e
      have no : rs.filter (fun r => r.1 == i && q r) = [] := by
        rw [List.filter_eq_nil_iff]
        intro x hx
        have := h.1 x.1 (List.mem_map_of_mem hx)
        have : (x.1 == i) = false := by rw [beq_eq_false_iff_ne]; omega
        simp [this]
      rw [hb, no]
      cases hq : q r <;> simp [hq]
    · have hb : (r.1 == i) = false := by simpa using e
      rw [hb]
      simpa using ih
section
variable {ts : List M5.TT} (hT : GoodT ts) (hl : ts.length ≤ 100) {ct : List (List RX)} (hC : CtOk ts ct)
  {k : Nat} {t : M5.TT} {rs : List RX} (ht : ts[k]? = some t) (hr : ct[k]? = some rs)
include hT hl hC ht hr
theorem due_shift {j : Nat} {c : TC} {b : Int} (hc : t.2[j]? = some c) : Due (.tuple [.str "shift", dL t.1, dL c.1, .int b]) ts ct (.tuple [.list [], .list (shR (dL t.1) (dL c.1) rs j b), .list []]) := by
  have g0 : gIx (.tuple [.str "shift", dL t.1, dL c.1, .int b]) (.int 0) = some (.val (.str "shift")) := gIx_t (k := 0) rfl
  have g1 : gIx (.tuple [.str "shift", dL t.1, dL c.1, .int b]) (.int 1) = some (.val (dL t.1)) := gIx_t (k := 1) rfl
  have g2 : gIx (.tuple [.str "shift", dL t.1, dL c.1, .int b]) (.int (-2)) = some (.val (dL c.1)) := by simp [gIx, atI, ixN]
  have g3 : gIx (.tuple [.str "shift", dL t.1, dL c.1, .int b]) (.int (-1)) = some (.val (.int b)) := by simp [gIx, atI, ixN]
  have ro := hC.g k t rs ht hr
  have z0 : (0 : Nat) ≤ sizeLine := sz_of (by omega)
  have z2 : (2 : Nat) ≤ sizeLine := sz_of (by omega)
  have z3 : (3 : Nat) ≤ sizeLine := sz_of (by omega)
  have z4 : (4 : Nat) ≤ sizeLine := sz_of (by omega)
  have mid := fun S => due_mid hT hl hC ht hr hc g2 g3 S
  have e := fun d (g0 : gIx d (.int 0) = some (.val (.str "shift"))) => db_loop (ts := ts) (ct := ct) (d := d) (k := k) (t := t) (rs := rs) (c := c) (v := .int b) (j := j) (fun r => !isNoneD (cellJ r j) && !decide (b = 0)) (fun r => PyData.tuple [dL t.1, .int r.1, dL c.1, addI (cellJ r j) b]) (fun r => addI (cellJ r j) b) rs [] none none (fun r hrr acc x14 ha => by
      obtain ⟨c1, c2⟩ := cell_ok (ro.r r hrr) (lt_get hc)
      have h1 : gIx (rowC r) (.int (j : Int)) = some (.val (cellJ r j)) := gIx_t c1
      have h0 : gIx (rowC r) (.int 0) = some (.val (.int r.1)) := by simp [rowC, gIx, atI, ixN]
      have hz : acc.length < sizeLine := by rw [sizeLine_eq]; omega
      unfold EL
      rcases c2 with z | ⟨a, z, _, _⟩
      · rw [z] at h1 ⊢
        have gn : gNe .none .none = some false := gNe_of (x := true) (by decide +kernel)
        generalize ct.map rowsC = F at *
        generalize t.2.map (fun c => dL c.1) = G at *
        generalize rs.map (fun r => PyData.int r.1) = G3 at *
        generalize rowsC rs = RR at *
        simp [Db, h1, g0, q_shift_shift, q_shift_set, gNotN, isNoneD, gn, addI]
      · rw [z] at h1 ⊢
        have gn : gNe (.int (a + b)) (.int a) = some (!decide (b = 0)) := by
          rw [M4.gNe_int]
          have : (a + b == a) = decide (b = 0) := by
            rw [Bool.eq_iff_iff, beq_iff_eq, decide_eq_true_iff]
            omega
          rw [this]
        by_cases hb : b = 0
        · have gn : gNe (.int (a + b)) (.int a) = some false := by rw [gn]; simp [hb]
          have hb2 : decide (b = 0) = true := by simpa using hb
          generalize ct.map rowsC = F at *
          generalize t.2.map (fun c => dL c.1) = G at *
          generalize rs.map (fun r => PyData.int r.1) = G3 at *
          generalize rowsC rs = RR at *
          simp [Db, h1, g0, q_shift_shift, q_shift_set, gNotN, isNoneD, gn, gAdd_i, addI, hb2]
        · have gn : gNe (.int (a + b)) (.int a) = some true := by rw [gn]; simp [hb]
          have hb2 : decide (b = 0) = false := by simpa using hb
          generalize ct.map rowsC = F at *
          generalize t.2.map (fun c => dL c.1) = G at *
          generalize rs.map (fun r => PyData.int r.1) = G3 at *
          generalize rowsC rs = RR at *
          simp [Db, h1, h0, g0, q_shift_shift, q_shift_set, gNotN, isNoneD, gn, gAdd_i, addI, hb2, z4, hz]) (by have := ro.l; simp; omega)
  obtain ⟨x9, x14, e⟩ := e _ g0
  have eo : (rs.filter fun r => !isNoneD (cellJ r j) && !decide (b = 0)).map (fun r => PyData.tuple [dL t.1, .int r.1, dL c.1, addI (cellJ r j) b]) = shR (dL t.1) (dL c.1) rs j b := by
    unfold shR
    by_cases hb : b = 0
    · rw [if_pos hb]; simp [hb]
    · rw [if_neg hb]; simp [hb]
  rw [List.nil_append, eo] at e
  unfold EL at e
  refine due_of hT hl hC ht hr g1 (ε' := [fT ts, some (.own (.lst (ct.map rowsC))), some (.fro (.tuple [.str "shift", dL t.1, dL c.1, .int b])), fI k, some (.fro (dL t.1)), some (.fro (rowsC rs)), some (.own (.lst (t.2.map fun c => dL c.1))), some (.fro (dL c.1)), some (.own (.lst (rs.map fun r : RX => PyData.int r.1))), x9, none, some (.fro (.int b)), fI j, some (.fro (.list (shR (dL t.1) (dL c.1) rs j b))), x14]) ?_ rfl
  unfold E3 DuR
  generalize hd : PyData.tuple [.str "shift", dL t.1, dL c.1, .int b] = d at *
  have f4 : Du4 [fT ts, some (.own (.lst (ct.map rowsC))), some (.fro d), fI k, some (.fro (dL t.1)), some (.fro (rowsC rs)), some (.own (.lst (t.2.map fun c => dL c.1))), none, some (.own (.lst (rs.map fun r : RX => PyData.int r.1))), none, none, none, none, none, none] = .nx [fT ts, some (.own (.lst (ct.map rowsC))), some (.fro d), fI k, some (.fro (dL t.1)), some (.fro (rowsC rs)), some (.own (.lst (t.2.map fun c => dL c.1))), none, some (.own (.lst (rs.map fun r : RX => PyData.int r.1))), none, none, none, none, none, none] := by
    generalize ct.map rowsC = F at *
    generalize t.2.map (fun c => dL c.1) = G at *
    generalize rs.map (fun r => PyData.int r.1) = G3 at *
    generalize rowsC rs = RR at *
    simp [Du4, g0, q_shift_put]
  have f5 : Du5 [fT ts, some (.own (.lst (ct.map rowsC))), some (.fro d), fI k, some (.fro (dL t.1)), some (.fro (rowsC rs)), some (.own (.lst (t.2.map fun c => dL c.1))), none, some (.own (.lst (rs.map fun r : RX => PyData.int r.1))), none, none, none, none, none, none] = .nx [fT ts, some (.own (.lst (ct.map rowsC))), some (.fro d), fI k, some (.fro (dL t.1)), some (.fro (rowsC rs)), some (.own (.lst (t.2.map fun c => dL c.1))), none, some (.own (.lst (rs.map fun r : RX => PyData.int r.1))), none, none, none, none, none, none] := by
    generalize ct.map rowsC = F at *
    generalize t.2.map (fun c => dL c.1) = G at *
    generalize rs.map (fun r => PyData.int r.1) = G3 at *
    generalize rowsC rs = RR at *
    simp [Du5, g0, q_shift, z2]
  have f6 : Du6 [fT ts, some (.own (.lst (ct.map rowsC))), some (.fro d), fI k, some (.fro (dL t.1)), some (.fro (rowsC rs)), some (.own (.lst (t.2.map fun c => dL c.1))), none, some (.own (.lst (rs.map fun r : RX => PyData.int r.1))), none, none, none, none, none, none] = .nx [fT ts, some (.own (.lst (ct.map rowsC))), some (.fro d), fI k, some (.fro (dL t.1)), some (.fro (rowsC rs)), some (.own (.lst (t.2.map fun c => dL c.1))), none, some (.own (.lst (rs.map fun r : RX => PyData.int r.1))), none, none, none, none, none, none] := by
    generalize ct.map rowsC = F at *
    generalize t.2.map (fun c => dL c.1) = G at *
    generalize rs.map (fun r => PyData.int r.1) = G3 at *
    generalize rowsC rs = RR at *
    simp [Du6, g0, q_shift_drop]
  have it : itemsD (rowsC rs) = some (rs.map rowC) := rfl
  rw [x_seq, f4, x_q1, x_seq, f5, x_q1, x_seq, f6, x_q1, mid, x_seq]
  generalize shR (dL t.1) (dL c.1) rs j b = Z at *
  generalize rs.map rowC = RM at *
  generalize ct.map rowsC = F at *
  generalize t.2.map (fun c => dL c.1) = G at *
  generalize rs.map (fun r => PyData.int r.1) = G3 at *
  generalize rowsC rs = RR at *
  simp [Du9, Du10, Du11_is, Du12, g0, q_shift_sweep, it, e, z0, z3]
theorem due_set {i : Int} {j : Nat} {c : TC} {v : D} (hc : t.2[j]? = some c) (hv : Wd v) : Due (.tuple [.str "set", dL t.1, .int i, dL c.1, v]) ts ct (match atR rs i with
    | some r => .tuple [.list [], .list (stR (dL t.1) (dL c.1) v r j), .list []]
    | none => .tuple [.str "norow", dL t.1, .int i]) := by
  have g0 : gIx (.tuple [.str "set", dL t.1, .int i, dL c.1, v]) (.int 0) = some (.val (.str "set")) := gIx_t (k := 0) rfl
  have g1 : gIx (.tuple [.str "set", dL t.1, .int i, dL c.1, v]) (.int 1) = some (.val (dL t.1)) := gIx_t (k := 1) rfl
  have gk : gIx (.tuple [.str "set", dL t.1, .int i, dL c.1, v]) (.int 2) = some (.val (.int i)) := gIx_t (k := 2) rfl
  have g2 : gIx (.tuple [.str "set", dL t.1, .int i, dL c.1, v]) (.int (-2)) = some (.val (dL c.1)) := by simp [gIx, atI, ixN]
  have g3 : gIx (.tuple [.str "set", dL t.1, .int i, dL c.1, v]) (.int (-1)) = some (.val v) := by simp [gIx, atI, ixN]
  have ro := hC.g k t rs ht hr
  have gi := gIn_at rs i
  have z0 : (0 : Nat) ≤ sizeLine := sz_of (by omega)
  have z2 : (2 : Nat) ≤ sizeLine := sz_of (by omega)
  have z3 : (3 : Nat) ≤ sizeLine := sz_of (by omega)
  have z4 : (4 : Nat) ≤ sizeLine := sz_of (by omega)
  have mid := fun S => due_mid hT hl hC ht hr hc g2 g3 S
  have e := fun d (g0 : gIx d (.int 0) = some (.val (.str "set"))) (gk : gIx d (.int 2) = some (.val (.int i))) => db_loop (ts := ts) (ct := ct) (d := d) (k := k) (t := t) (rs := rs) (c := c) (v := v) (j := j) (fun r => r.1 == i && !wEq (cellJ r j) v) (fun r => PyData.tuple [dL t.1, .int r.1, dL c.1, v]) (fun r => if (r.1 == i) = true then v else cellJ r j) rs [] none none (fun r hrr acc x14 ha => by
      obtain ⟨c1, c2⟩ := cell_ok (ro.r r hrr) (lt_get hc)
      have h1 : gIx (rowC r) (.int (j : Int)) = some (.val (cellJ r j)) := gIx_t c1
      have h0 : gIx (rowC r) (.int 0) = some (.val (.int r.1)) := by simp [rowC, gIx, atI, ixN]
      have hz : acc.length < sizeLine := by rw [sizeLine_eq]; omega
      have gn := gNe_of (gEq_wd hv c2)
      rw [wEq_sym] at gn
      have gs : gNe (cellJ r j) (cellJ r j) = some false := gNe_of (x := true) (by rw [gEq_wd c2 c2]; rw [(wEq_iff c2 c2).mpr rfl])
      have ge := M4.gEq_int r.1 i
      unfold EL
      generalize rowC r = R at *
      generalize cellJ r j = cj at *
      cases hri : (r.1 == i) with
      | false =>
        rw [hri] at ge
        generalize ct.map rowsC = F at *
        generalize t.2.map (fun c => dL c.1) = G at *
        generalize rs.map (fun r => PyData.int r.1) = G3 at *
        generalize rowsC rs = RR at *
        simp [Db, h1, h0, g0, gk, q_set_shift, q_set_set, ge, gs]
      | true =>
        rw [hri] at ge
        cases hw : wEq cj v with
        | true =>
          rw [hw] at gn
          generalize ct.map rowsC = F at *
          generalize t.2.map (fun c => dL c.1) = G at *
          generalize rs.map (fun r => PyData.int r.1) = G3 at *
          generalize rowsC rs = RR at *
          simp [Db, h1, h0, g0, gk, q_set_shift, q_set_set, ge, gn]
        | false =>
          rw [hw] at gn
          generalize ct.map rowsC = F at *
          generalize t.2.map (fun c => dL c.1) = G at *
          generalize rs.map (fun r => PyData.int r.1) = G3 at *
          generalize rowsC rs = RR at *
          simp [Db, h1, h0, g0, gk, q_set_shift, q_set_set, ge, gn, z4, hz]) (by have := ro.l; simp; omega)
  obtain ⟨x9, x14, e⟩ := e _ g0 gk
  rw [List.nil_append, at_filt (i := i) (fun r => !wEq (cellJ r j) v) ro.up] at e
  unfold EL at e
  cases q : atR rs i with
  | none =>
    rw [q] at gi
    have gn : gNotIn (.int i) (.list (rs.map fun r : RX => PyData.int r.1)) = some true := by unfold gNotIn; rw [gi]; rfl
    clear e
    refine due_of hT hl hC ht hr g1 (ε' := [fT ts, some (.own (.lst (ct.map rowsC))), some (.fro (.tuple [.str "set", dL t.1, .int i, dL c.1, v])), fI k, some (.fro (dL t.1)), some (.fro (rowsC rs)), some (.own (.lst (t.2.map fun c => dL c.1))), none, some (.own (.lst (rs.map fun r : RX => PyData.int r.1))), none, none, none, none, none, none]) ?_ rfl
    unfold E3 DuR
    generalize hd : PyData.tuple [.str "set", dL t.1, .int i, dL c.1, v] = d at *
    generalize ct.map rowsC = F at *
    generalize t.2.map (fun c => dL c.1) = G at *
    generalize rs.map (fun r => PyData.int r.1) = G3 at *
    generalize rowsC rs = RR at *
    simp [Du4, Du5, g0, q_set_put, q_set, gk, gn, z2, z3]
  | some r' =>
    rw [q] at gi e
    have ri : r'.1 = i := by have := List.find?_some q; simpa using this
    have gn : gNotIn (.int i) (.list (rs.map fun r : RX => PyData.int r.1)) = some false := by unfold gNotIn; rw [gi]; rfl
    have eo : (if (!wEq (cellJ r' j) v) = true then [r'] else []).map (fun r : RX => PyData.tuple [dL t.1, .int r.1, dL c.1, v]) = stR (dL t.1) (dL c.1) v r' j := by
      unfold stR
      cases wEq (cellJ r' j) v <;> simp
    dsimp only at e
    rw [eo] at e
    refine due_of hT hl hC ht hr g1 (ε' := [fT ts, some (.own (.lst (ct.map rowsC))), some (.fro (.tuple [.str "set", dL t.1, .int i, dL c.1, v])), fI k, some (.fro (dL t.1)), some (.fro (rowsC rs)), some (.own (.lst (t.2.map fun c => dL c.1))), some (.fro (dL c.1)), some (.own (.lst (rs.map fun r : RX => PyData.int r.1))), x9, none, some (.fro v), fI j, some (.fro (.list (stR (dL t.1) (dL c.1) v r' j))), x14]) ?_ rfl
    unfold E3 DuR
    generalize hd : PyData.tuple [.str "set", dL t.1, .int i, dL c.1, v] = d at *
    have f4 : Du4 [fT ts, some (.own (.lst (ct.map rowsC))), some (.fro d), fI k, some (.fro (dL t.1)), some (.fro (rowsC rs)), some (.own (.lst (t.2.map fun c => dL c.1))), none, some (.own (.lst (rs.map fun r : RX => PyData.int r.1))), none, none, none, none, none, none] = .nx [fT ts, some (.own (.lst (ct.map rowsC))), some (.fro d), fI k, some (.fro (dL t.1)), some (.fro (rowsC rs)), some (.own (.lst (t.2.map fun c => dL c.1))), none, some (.own (.lst (rs.map fun r : RX => PyData.int r.1))), none, none, none, none, none, none] := by
      generalize ct.map rowsC = F at *
      generalize t.2.map (fun c => dL c.1) = G at *
      generalize rs.map (fun r => PyData.int r.1) = G3 at *
      generalize rowsC rs = RR at *
      simp [Du4, g0, q_set_put]
    have f5 : Du5 [fT ts, some (.own (.lst (ct.map rowsC))), some (.fro d), fI k, some (.fro (dL t.1)), some (.fro (rowsC rs)), some (.own (.lst (t.2.map fun c => dL c.1))), none, some (.own (.lst (rs.map fun r : RX => PyData.int r.1))), none, none, none, none, none, none] = .nx [fT ts, some (.own (.lst (ct.map rowsC))), some (.fro d), fI k, some (.fro (dL t.1)), some (.fro (rowsC rs)), some (.own (.lst (t.2.map fun c => dL c.1))), none, some (.own (.lst (rs.map fun r : RX => PyData.int r.1))), none, none, none, none, none, none] := by
      generalize ct.map rowsC = F at *
      generalize t.2.map (fun c => dL c.1) = G at *
      generalize rs.map (fun r => PyData.int r.1) = G3 at *
      generalize rowsC rs = RR at *
      simp [Du5, g0, q_set, gk, gn, z2]
    have f6 : Du6 [fT ts, some (.own (.lst (ct.map rowsC))), some (.fro d), fI k, some (.fro (dL t.1)), some (.fro (rowsC rs)), some (.own (.lst (t.2.map fun c => dL c.1))), none, some (.own (.lst (rs.map fun r : RX => PyData.int r.1))), none, none, none, none, none, none] = .nx [fT ts, some (.own (.lst (ct.map rowsC))), some (.fro d), fI k, some (.fro (dL t.1)), some (.fro (rowsC rs)), some (.own (.lst (t.2.map fun c => dL c.1))), none, some (.own (.lst (rs.map fun r : RX => PyData.int r.1))), none, none, none, none, none, none] := by
      generalize ct.map rowsC = F at *
      generalize t.2.map (fun c => dL c.1) = G at *
      generalize rs.map (fun r => PyData.int r.1) = G3 at *
      generalize rowsC rs = RR at *
      simp [Du6, g0, q_set_drop]
    have it : itemsD (rowsC rs) = some (rs.map rowC) := rfl
    rw [x_seq, f4, x_q1, x_seq, f5, x_q1, x_seq, f6, x_q1, mid, x_seq]
    dsimp only
    generalize stR (dL t.1) (dL c.1) v r' j = Z at *
    generalize rs.map rowC = RM at *
    generalize ct.map rowsC = F at *
    generalize t.2.map (fun c => dL c.1) = G at *
    generalize rs.map (fun r => PyData.int r.1) = G3 at *
    generalize rowsC rs = RR at *
    simp [Du9, Du10, Du11_is, Du12, g0, q_set_sweep, it, e, z0, z3]
end
end GA

namespace GA
open PySem PySem.Spec L2 M3 M4 M5
open PyProof.Rows hiding St
open GC (lc_map lc_filtM zip_same gNe_bool sz_of trues trues2 Sw RX rowC rowsC RowOk RowsOk CtOk HdOk rowL H0 H1 H2 Handed wEq gEq_wd wEq_iff e_tp e_cp e_rows e_row rowOf fn_at gIdx_L handed_fi handed_hd two_okd plD NSx x_raise cellJ cell_ok gAdd_ll cut_from hd_cell hd_tp)
section
variable {a0 a1 a2 : Option SV} {t k : D} {dss : List (List D)}
theorem gk_tk : gNotIn (.list [.bool false, .bool true, .bool false]) (.tuple [.list [.bool true, .bool false, .bool false], .list [.bool false, .bool true, .bool false]]) = some false := by decide +kernel
theorem gk_nr : gNotIn (.list [.bool true, .bool false, .bool false]) (.tuple [.list [.bool true, .bool false, .bool false], .list [.bool false, .bool true, .bool false]]) = some false := by decide +kernel
theorem gi_tk : gIndexB (.list [.bool false, .bool true, .bool false]) [.bool true] = some (.val (.int 1)) := rfl
theorem gi_nr : gIndexB (.list [.bool true, .bool false, .bool false]) [.bool true] = some (.val (.int 0)) := rfl
theorem gw_tk : gIx (.list [.str "norow", .str "taken"]) (.int 1) = some (.val (.str "taken")) := by simp [gIx, atI, ixN]
theorem gw_nr : gIx (.list [.str "norow", .str "taken"]) (.int 0) = some (.val (.str "norow")) := by simp [gIx, atI, ixN]
theorem lk_t : List.lookup ("table" : Str) [(("key" : Str), k), ("table", t)] = some t := rfl
theorem lk_k : List.lookup ("key" : Str) [(("key" : Str), k), ("table", t)] = some k := rfl
end
variable {ts : List M5.TT} {HD dd : D} {t k : D} {dss : List (List D)}
theorem told_tl (e : F_own_part [fT ts, some (.fro HD), some (.fro dd)] = .ok (.new (.tl dss)) [fT ts, some (.fro HD), some (.fro dd)]) : F_law_told [fT ts, some (.fro HD), some (.fro dd)] = .ok (.new (.tl dss)) [fT ts, some (.fro HD), some (.fro dd)] := by
  have z2 : (2 : Nat) ≤ sizeLine := sz_of (by omega)
  unfold F_law_told
  refine fn_at (i := 3) (E := [fT ts, some (.fro HD), some (.fro dd), none, none, none, none]) (ε' := [fT ts, some (.fro HD), some (.fro dd), some (.own (.tl dss)), some (.fro .none), none, none]) rfl (by simp) rfl ?_ (by simp) rfl rfl
  simp [B_law_told, e, z2, sTryKeep, mIsNX, isNoneD]
theorem told_nr (e : F_own_part [fT ts, some (.fro HD), some (.fro dd)] = .err (NR t k) [fT ts, some (.fro HD), some (.fro dd)]) : F_law_told [fT ts, some (.fro HD), some (.fro dd)] = .ok (.fro (.tuple [.str "norow", t, k])) [fT ts, some (.fro HD), some (.fro dd)] := by
  have z2 : (2 : Nat) ≤ sizeLine := sz_of (by omega)
  have z3 : (3 : Nat) ≤ sizeLine := sz_of (by omega)
  unfold NR at e
  have d1 : decide (("NoRow" : Str) = ("Taken" : Str)) = false := by decide +kernel
  have d2 : decide (("Taken" : Str) = ("NoRow" : Str)) = false := by decide +kernel
  have d3 : decide (("NoRow" : Str) = ("NoSuch" : Str)) = false := by decide +kernel
  have d4 : decide (("Taken" : Str) = ("NoSuch" : Str)) = false := by decide +kernel
  simp [F_law_told, B_law_told, e, z2, z3, sTryKeep, mIsNX, isNoneD, lk_t, lk_k, d1, d2, d3, d4, mIsX, mXf, gk_nr, gi_nr, gw_nr]
theorem told_tk (e : F_own_part [fT ts, some (.fro HD), some (.fro dd)] = .err (TK t k) [fT ts, some (.fro HD), some (.fro dd)]) : F_law_told [fT ts, some (.fro HD), some (.fro dd)] = .ok (.fro (.tuple [.str "taken", t, k])) [fT ts, some (.fro HD), some (.fro dd)] := by
  have z2 : (2 : Nat) ≤ sizeLine := sz_of (by omega)
  have z3 : (3 : Nat) ≤ sizeLine := sz_of (by omega)
  unfold TK at e
  have d1 : decide (("NoRow" : Str) = ("Taken" : Str)) = false := by decide +kernel
  have d2 : decide (("Taken" : Str) = ("NoRow" : Str)) = false := by decide +kernel
  have d3 : decide (("NoRow" : Str) = ("NoSuch" : Str)) = false := by decide +kernel
  have d4 : decide (("Taken" : Str) = ("NoSuch" : Str)) = false := by decide +kernel
  simp [F_law_told, B_law_told, e, z2, z3, sTryKeep, mIsNX, isNoneD, lk_t, lk_k, d1, d2, d3, d4, mIsX, mXf, gk_tk, gi_tk, gw_tk]
end GA

namespace GA
open PySem PySem.Spec L2 M3 M4 M5
open PyProof.Rows hiding St
open GC (lc_map lc_filtM zip_same gNe_bool sz_of trues trues2 Sw RX rowC rowsC RowOk RowsOk CtOk HdOk rowL H0 H1 H2 Handed wEq gEq_wd wEq_iff e_tp e_cp e_rows e_row rowOf fn_at gIdx_L handed_fi handed_hd two_okd plD NSx x_raise cellJ cell_ok gAdd_ll cut_from hd_cell hd_tp row_fl)
/-- a tuple among the parts is handed in as a list -/
def lf : D → D
  | .tuple xs => .list xs
  | d => d
def Hnd (d dd : D) : Prop := dd = d ∨ ∃ ps, d = .tuple ps ∧ dd = .list (ps.map lf)
theorem sw_wd {d : D} (h : Wd d) (n : Nat) : Sw n d := by
  rcases h with rfl | ⟨i, rfl, _, _⟩
  · cases n <;> exact trivial
  · cases n <;> exact trivial
theorem sw_str (z : Str) (n : Nat) : Sw n (.str z) := by cases n <;> exact trivial
theorem sw_int (i : Int) (n : Nat) : Sw n (.int i) := by cases n <;> exact trivial
theorem sw_dL (l : List Nat) (n : Nat) : Sw n (dL l) := sw_str _ n
theorem sw_tup {ps : List D} {n : Nat} (hl : ps.length ≤ 1000) (h : ∀ x ∈ ps, Sw n x) : Sw (n + 1) (.tuple ps) := ⟨hl, h⟩
theorem sw_lst {ps : List D} {n : Nat} (hl : ps.length ≤ 1000) (h : ∀ x ∈ ps, Sw n x) : Sw (n + 1) (.list ps) := ⟨hl, h⟩
theorem sw_row {cols : List TC} {r : RX} (h : RowOk cols r) (hl : cols.length ≤ 5) (n : Nat) : Sw (n + 1) (rowC r) := sw_tup (by rw [List.length_cons]; have := h.l; omega) fun x hx => by
  rcases List.mem_cons.mp hx with rfl | hx
  · exact sw_int _ n
  · exact sw_wd (h.w x hx) n
theorem sw_three {a b c : List D} (ha : a.length ≤ 1000 ∧ ∀ x ∈ a, Sw 9 x) (hb : b.length ≤ 1000 ∧ ∀ x ∈ b, Sw 9 x) (hc : c.length ≤ 1000 ∧ ∀ x ∈ c, Sw 9 x) : Sw 11 (.tuple [.list a, .list b, .list c]) :=
  sw_tup (by simp) fun x hx => by
    simp only [List.mem_cons, List.not_mem_nil, or_false] at hx
    rcases hx with rfl | rfl | rfl
    · exact sw_lst ha.1 ha.2
    · exact sw_lst hb.1 hb.2
    · exact sw_lst hc.1 hc.2
theorem sw_nil : ([] : List D).length ≤ 1000 ∧ ∀ x ∈ ([] : List D), Sw 9 x := ⟨by simp, fun _ h => by cases h⟩
theorem sw_word (z : Str) (l : List Nat) (i : Int) : Sw 11 (.tuple [.str z, dL l, .int i]) := sw_tup (by simp) fun x hx => by
  simp only [List.mem_cons, List.not_mem_nil, or_false] at hx
  rcases hx with rfl | rfl | rfl
  · exact sw_str _ _
  · exact sw_dL _ _
  · exact sw_int _ _
/-- what is told of a deed is what is due -/
def Ans (ts : List M5.TT) (ct : List (List RX)) (HD d dd : D) : Prop := ∃ x, Due d ts ct x ∧ Sw 11 x ∧
  ((∃ a b c, F_law_told [fT ts, some (.fro HD), some (.fro dd)] = .ok (.new (.tl [a, b, c])) [fT ts, some (.fro HD), some (.fro dd)] ∧ x = .tuple [.list a, .list b, .list c] ∧ a.length ≤ 1000 ∧ b.length ≤ 1000 ∧ c.length ≤ 1000) ∨
   (∃ z y w, F_law_told [fT ts, some (.fro HD), some (.fro dd)] = .ok (.fro x) [fT ts, some (.fro HD), some (.fro dd)] ∧ x = .tuple [.str z, y, w]))
section
variable {ts : List M5.TT} (hT : GoodT ts) (hl : ts.length ≤ 100) {ct : List (List RX)} (hC : CtOk ts ct) {HD : D} {rg : RX → D} (hd : HdOk ts HD rg ct)
include hT hl hC hd
theorem row_at {k : Nat} {t : M5.TT} (ht : ts[k]? = some t) : ∃ rs, ct[k]? = some rs := by
  have : k < ct.length := by rw [hC.l]; exact lt_get ht
  exact ⟨_, List.getElem?_eq_getElem this⟩
theorem ans_ok {d dd : D} (hp : DeedP ts d) (hs : Hnd d dd) : Ans ts ct HD d dd := by
  cases hp with
  | @put k t r ht ro =>
    obtain ⟨rs, hr⟩ := row_at hT hl hC hd ht
    have wi : Wd (.int r.1) := .inr ⟨_, rfl, ro.b.1, ro.b.2⟩
    have gc := (hT.g t (List.mem_of_getElem? ht)).2.l
    have h100 : r.2.length ≤ 100 := by have := ro.l; omega
    have due := due_put hT hl hC ht hr (r := r)
    obtain ⟨R, hR, hq⟩ : ∃ R, isSeq dd [.str "put", dL t.1, R] ∧ (R = rowC r ∨ R = rowL r) := by
      rcases hs with rfl | ⟨ps, e, rfl⟩
      · exact ⟨rowC r, .inl rfl, .inl rfl⟩
      · cases e
        exact ⟨rowL r, .inr rfl, .inr rfl⟩
    have g0 : gIx R (.int 0) = some (.val (.int r.1)) := by
      rcases hq with rfl | rfl
      · simp [rowC, gIx, atI, ixN]
      · simp [rowL, gIx, atI, ixN]
    have g1 : ∀ ε : En, outR (gTuple [R]) ε = .ok (.fro (rowC r)) ε := fun ε => by
      rcases hq with rfl | rfl
      · exact hd_tp (.inl rfl) r ε h100
      · exact hd_tp (.inr rfl) r ε h100
    have e := o_put hT hC hd ht hr hR wi g0 g1
    cases q : atR rs r.1 with
    | some r' =>
      rw [q] at e due
      exact ⟨_, due, sw_word _ _ _, .inr ⟨_, _, _, told_tk e, rfl⟩⟩
    | none =>
      rw [q] at e due
      refine ⟨_, due, sw_three sw_nil sw_nil ⟨by simp, fun x hx => ?_⟩, .inl ⟨_, _, _, told_tl e, rfl, by simp, by simp, by simp⟩⟩
      rw [List.mem_singleton.mp hx]
      refine sw_tup (by simp) fun x hx => ?_
      simp only [List.mem_cons, List.not_mem_nil, or_false] at hx
      rcases hx with rfl | rfl
      · exact sw_dL _ _
      · exact sw_row ro gc _
  | @drop k t i ht wi =>
    obtain ⟨rs, hr⟩ := row_at hT hl hC hd ht
    have due := due_drop hT hl hC ht hr (i := i)
    have hR : isSeq dd [.str "drop", dL t.1, .int i] := by
      rcases hs with rfl | ⟨ps, e, rfl⟩
      · exact .inl rfl
      · cases e; exact .inr rfl
    have e := o_drop hT hC hd ht hr hR wi
    cases q : atR rs i with
    | none =>
      rw [q] at e due
      exact ⟨_, due, sw_word _ _ _, .inr ⟨_, _, _, told_nr e, rfl⟩⟩
    | some r' =>
      rw [q] at e due
      refine ⟨_, due, sw_three ⟨by simp, fun x hx => ?_⟩ sw_nil sw_nil, .inl ⟨_, _, _, told_tl e, rfl, by simp, by simp, by simp⟩⟩
      rw [List.mem_singleton.mp hx]
      refine sw_tup (by simp) fun x hx => ?_
      simp only [List.mem_cons, List.not_mem_nil, or_false] at hx
      rcases hx with rfl | rfl
      · exact sw_dL _ _
      · exact sw_int _ _
  | @set k j t c i v ht hc wi wv =>
    obtain ⟨rs, hr⟩ := row_at hT hl hC hd ht
    have due := due_set hT hl hC ht hr (i := i) hc wv
    have lv : lf v = v := by rcases wv with rfl | ⟨_, rfl, _, _⟩ <;> rfl
    have hR : isSeq dd [.str "set", dL t.1, .int i, dL c.1, v] := by
      rcases hs with rfl | ⟨ps, e, rfl⟩
      · exact .inl rfl
      · cases e
        refine .inr ?_
        show PyData.list [.str "set", dL t.1, .int i, dL c.1, lf v] = _
        rw [lv]
    have e := o_set hT hC hd ht hr hR wi hc wv
    cases q : atR rs i with
    | none =>
      rw [q] at e due
      exact ⟨_, due, sw_word _ _ _, .inr ⟨_, _, _, told_nr e, rfl⟩⟩
    | some r' =>
      rw [q] at e due
      have hlen : (stR (dL t.1) (dL c.1) v r' j).length ≤ 1000 := by unfold stR; split <;> simp
      refine ⟨_, due, sw_three sw_nil ⟨hlen, fun x hx => ?_⟩ sw_nil, .inl ⟨_, _, _, told_tl e, rfl, by simp, hlen, by simp⟩⟩
      unfold stR at hx
      split at hx
      · cases hx
      · rw [List.mem_singleton.mp hx]
        refine sw_tup (by simp) fun x hx => ?_
        simp only [List.mem_cons, List.not_mem_nil, or_false] at hx
        rcases hx with rfl | rfl | rfl | rfl
        · exact sw_dL _ _
        · exact sw_int _ _
        · exact sw_dL _ _
        · exact sw_wd wv _
  | @sweep k j t c v ht hc wv =>
    obtain ⟨rs, hr⟩ := row_at hT hl hC hd ht
    have rl := (hC.g k t rs ht hr).l
    have due := due_sweep hT hl hC ht hr hc wv
    have lv : lf v = v := by rcases wv with rfl | ⟨_, rfl, _, _⟩ <;> rfl
    have hR : isSeq dd [.str "sweep", dL t.1, dL c.1, v] := by
      rcases hs with rfl | ⟨ps, e, rfl⟩
      · exact .inl rfl
      · cases e
        refine .inr ?_
        show PyData.list [.str "sweep", dL t.1, dL c.1, lf v] = _
        rw [lv]
    have e := o_sweep hT hC hd ht hr hR hc wv
    have hlen : (swR (dL t.1) rs j v).length ≤ 1000 := by unfold swR; rw [List.length_map]; have := List.length_filter_le (fun r => wEq (cellJ r j) v) rs; omega
    refine ⟨_, due, sw_three ⟨hlen, fun x hx => ?_⟩ sw_nil sw_nil, .inl ⟨_, _, _, told_tl e, rfl, hlen, by simp, by simp⟩⟩
    unfold swR at hx
    obtain ⟨r, _, rfl⟩ := List.mem_map.mp hx
    refine sw_tup (by simp) fun x hx => ?_
    simp only [List.mem_cons, List.not_mem_nil, or_false] at hx
    rcases hx with rfl | rfl
    · exact sw_dL _ _
    · exact sw_int _ _
  | @shift k j t c i ht hc wi =>
    obtain ⟨rs, hr⟩ := row_at hT hl hC hd ht
    have ro := hC.g k t rs ht hr
    have rl := ro.l
    have due := due_shift hT hl hC ht hr (b := i) hc
    have hR : isSeq dd [.str "shift", dL t.1, dL c.1, .int i] := by
      rcases hs with rfl | ⟨ps, e, rfl⟩
      · exact .inl rfl
      · cases e; exact .inr rfl
    have e := o_shift hT hC hd ht hr hR hc
    have hlen : (shR (dL t.1) (dL c.1) rs j i).length ≤ 1000 := by
      unfold shR
      split
      · simp
      · rw [List.length_map]; have := List.length_filter_le (fun r => !isNoneD (cellJ r j)) rs; omega
    refine ⟨_, due, sw_three sw_nil ⟨hlen, fun x hx => ?_⟩ sw_nil, .inl ⟨_, _, _, told_tl e, rfl, by simp, hlen, by simp⟩⟩
    unfold shR at hx
    split at hx
    · cases hx
    · obtain ⟨r, hm, rfl⟩ := List.mem_map.mp hx
      have c2 := (cell_ok (ro.r r (List.mem_filter.mp hm).1) (lt_get hc)).2
      refine sw_tup (by simp) fun x hx => ?_
      simp only [List.mem_cons, List.not_mem_nil, or_false] at hx
      rcases hx with rfl | rfl | rfl | rfl
      · exact sw_dL _ _
      · exact sw_int _ _
      · exact sw_dL _ _
      · rcases c2 with z | ⟨a, z, _, _⟩
        · rw [z]; exact trivial
        · rw [z]; exact sw_int _ _
end
theorem parts_fi {ps : List D} (h : ∀ x ∈ ps, Fi MM 315 1 x) (hl : ps.length ≤ 5) : Fi MM 2000 3 (.tuple ps) ∧ Fi MM 2000 3 (.list ps) := by
  have f := (fl_all h).mono (fun _ z => z) (V := 1580) (by have : ps.length * 316 ≤ 5 * 316 := Nat.mul_le_mul_right _ hl; omega) (Nat.le_refl _)
  exact ⟨f.tup.mono (Int.le_refl _) (by omega) (by omega), f.lst.mono (Int.le_refl _) (by omega) (by omega)⟩
theorem deed_fi {ts : List M5.TT} (hT : GoodT ts) {d dd : D} (hp : DeedP ts d) (hs : Hnd d dd) : Fi MM 2000 3 dd := by
  have up : ∀ {x : D}, Fi MM 62 0 x → Fi MM 315 1 x := fun h => h.mono (Int.le_refl _) (by omega) (by omega)
  have st : ∀ z : Str, asc z = true → z.length ≤ 8 → Fi MM 315 1 (.str z) := fun z h1 h2 => up (fi_str h1 (by omega))
  have nt : ∀ {k : Nat} {t : M5.TT}, ts[k]? = some t → Fi MM 315 1 (dL t.1) := fun ht => up (nm_fi (hT.g _ (List.mem_of_getElem? ht)).1)
  have nc : ∀ {k j : Nat} {t : M5.TT} {c : TC}, ts[k]? = some t → t.2[j]? = some c → Fi MM 315 1 (dL c.1) := fun ht hc => up (nm_fi ((hT.g _ (List.mem_of_getElem? ht)).2.g _ (List.mem_of_getElem? hc)).1)
  have wd : ∀ {x : D}, Wd x → Fi MM 315 1 x := fun h => up (wd_fi h)
  have wl : ∀ {x : D}, Wd x → lf x = x := fun h => by rcases h with rfl | ⟨_, rfl, _, _⟩ <;> rfl
  have key : ∀ ps : List D, d = .tuple ps → ps.length ≤ 5 → (∀ x ∈ ps, Fi MM 315 1 x ∧ Fi MM 315 1 (lf x)) → Fi MM 2000 3 dd := fun ps e hl h => by
    rcases hs with rfl | ⟨qs, e2, rfl⟩
    · rw [e]; exact (parts_fi (fun x hx => (h x hx).1) hl).1
    · rw [e] at e2
      cases e2
      exact (parts_fi (ps := ps.map lf) (fun x hx => by
        obtain ⟨y, hy, rfl⟩ := List.mem_map.mp hx
        exact (h y hy).2) (by rw [List.length_map]; exact hl)).2
  cases hp with
  | @put k t r ht ro =>
    refine key _ rfl (by simp) fun x hx => ?_
    simp only [List.mem_cons, List.not_mem_nil, or_false] at hx
    have gc := (hT.g t (List.mem_of_getElem? ht)).2.l
    rcases hx with rfl | rfl | rfl
    · exact ⟨st _ (by decide +kernel) (by decide +kernel), st _ (by decide +kernel) (by decide +kernel)⟩
    · exact ⟨nt ht, nt ht⟩
    · exact ⟨(row_fl gc ro).tup, (row_fl gc ro).lst⟩
  | @drop k t i ht wi =>
    refine key _ rfl (by simp) fun x hx => ?_
    simp only [List.mem_cons, List.not_mem_nil, or_false] at hx
    rcases hx with rfl | rfl | rfl
    · exact ⟨st _ (by decide +kernel) (by decide +kernel), st _ (by decide +kernel) (by decide +kernel)⟩
    · exact ⟨nt ht, nt ht⟩
    · exact ⟨wd wi, wd wi⟩
  | @set k j t c i v ht hc wi wv =>
    refine key _ rfl (by simp) fun x hx => ?_
    simp only [List.mem_cons, List.not_mem_nil, or_false] at hx
    rcases hx with rfl | rfl | rfl | rfl | rfl
    · exact ⟨st _ (by decide +kernel) (by decide +kernel), st _ (by decide +kernel) (by decide +kernel)⟩
    · exact ⟨nt ht, nt ht⟩
    · exact ⟨wd wi, wd wi⟩
    · exact ⟨nc ht hc, nc ht hc⟩
    · exact ⟨wd wv, by rw [wl wv]; exact wd wv⟩
  | @sweep k j t c v ht hc wv =>
    refine key _ rfl (by simp) fun x hx => ?_
    simp only [List.mem_cons, List.not_mem_nil, or_false] at hx
    rcases hx with rfl | rfl | rfl | rfl
    · exact ⟨st _ (by decide +kernel) (by decide +kernel), st _ (by decide +kernel) (by decide +kernel)⟩
    · exact ⟨nt ht, nt ht⟩
    · exact ⟨nc ht hc, nc ht hc⟩
    · exact ⟨wd wv, by rw [wl wv]; exact wd wv⟩
  | @shift k j t c i ht hc wi =>
    refine key _ rfl (by simp) fun x hx => ?_
    simp only [List.mem_cons, List.not_mem_nil, or_false] at hx
    rcases hx with rfl | rfl | rfl | rfl
    · exact ⟨st _ (by decide +kernel) (by decide +kernel), st _ (by decide +kernel) (by decide +kernel)⟩
    · exact ⟨nt ht, nt ht⟩
    · exact ⟨nc ht hc, nc ht hc⟩
    · exact ⟨wd wi, wd wi⟩
theorem two_ok {ts : List M5.TT} (hT : GoodT ts) (hl : ts.length ≤ 6) {ct : List (List RX)} (hC : CtOk ts ct) {HD d dd : D} (hH : Handed ct HD) (hp : DeedP ts d) (hs : Hnd d dd) : Okd (.list [HD, dd]) :=
  (((FL.one (handed_fi hT hl hC hH)).app (FL.one (deed_fi hT hp hs))).lst).okd (by decide) (by omega) (by omega)
end GA

namespace GA
open PySem PySem.Spec L2 M3 M4 M5
open PyProof.Rows hiding St
open GC (lc_map lc_filtM zip_same gNe_bool sz_of trues trues2 Sw RX rowC rowsC RowOk RowsOk CtOk HdOk rowL H0 H1 H2 Handed wEq gEq_wd wEq_iff e_tp e_cp e_rows e_row rowOf fn_at gIdx_L handed_fi handed_hd two_okd plD NSx x_raise cellJ cell_ok gAdd_ll cut_from hd_cell hd_tp)
def Lw1 : Sm := (sSet 1 (mCall 1 F_law_begin (msCons (oE (mVar 0)) msNil)))
def Lw2 : Sm := (sSet 2 (mCall 3 F_law_tables (msCons (oE (mVar 1)) (msCons (oE (mOp gAdd (oE (mC (.int 1))) (oE (mCall 2 F_law_take (msCons (oE (mVar 1)) (msCons (oE (mC (.int 4))) msNil)))))) (msCons (oE (mC (.int 5))) msNil)))))
def Lw3 : Sm := (sSet 3 (mCall 3 F_law_content (msCons (oE (mVar 1)) (msCons (oE (mVar 2)) (msCons (oE (mOp gAdd (oE (mC (.int 1))) (oE (mCall 2 F_law_take (msCons (oE (mVar 1)) (msCons (oE (mC (.int 6))) msNil)))))) msNil)))))
def Lw4 : Sm := (sFor (mRng1 (msCons (oE (mC (.int 30))) msNil)) (.nm 4) (sSeq (sSet 5 (mCall 3 F_law_deed (msCons (oE (mVar 1)) (msCons (oE (mVar 2)) (msCons (oE (mVar 3)) msNil)))))
    (sSeq (sPar [6, 7] (msCons (mCall 3 F_law_due (msCons (oE (mVar 2)) (msCons (oE (mVar 3)) (msCons (oE (mVar 5)) msNil)))) (msCons (mCall 1 F_law_copiedO (msCons (oE (mVar 3)) msNil)) msNil)))
    (sSeq (sIf (mBl (mOp (bo gEq) (oE (mOp gMod (oE (mVar 4)) (oE (mC (.int 3))))) (oE (mC (.int 1))))) (sSet 7 (mCallB gTuple (msCons (oE (mLcO 3 (.nm 8) [8] mYes (fE (oE (mCallB gTuple (msCons (oE (mVar 8)) msNil)))))) msNil))) sNext)
    (sSeq (sIf (mBl (mOp (bo gEq) (oE (mOp gMod (oE (mVar 4)) (oE (mC (.int 3))))) (oE (mC (.int 2))))) (sSeq (sSet 7 (mLcO 3 (.nm 8) [8] mYes (fE (oE (mLc (mIt (fE (oE (mVar 8)))) (.nm 9) [9] mYes (fE (oE (mCallB gList (msCons (oE (mVar 9)) msNil)))))))))
    (sSet 5 (mLc (mIt (fE (oE (mVar 5)))) (.nm 10) [10] mYes (fE (oE (mIfE (mTru (oE (mIsi "tuple" (oE (mVar 10))))) (mCallB gList (msCons (oE (mVar 10)) msNil)) (mVar 10))))))) sNext)
    (sSeq (sPar [11, 12] (msCons (mCallB gRepr (msCons (oE (mLst (dsCons (fE (oE (mVar 7))) (dsCons (fE (oE (mVar 5))) dsNil)))) msNil)) (msCons (mCall 3 F_law_told (msCons (oE (mVar 2)) (msCons (oE (mVar 7)) (msCons (oE (mVar 5)) msNil)))) msNil)))
    (sSeq (sIf (mLookB (mOr (mNot (mTru (oE (mCallV 2 (F_law_same 12) (msCons (oE (mVar 12)) (msCons (oE (mVar 6)) msNil)))))) (mBl (mOp (bo gNe) (oE (mCallB gRepr (msCons (oE (mLst (dsCons (fE (oE (mVar 7))) (dsCons (fE (oE (mVar 5))) dsNil)))) msNil))) (oE (mVar 11)))))) (sRet (mC (.bool false))) sNext)
    (sIf (mLookB (mAnd (mTru (oE (mIsi "tuple" (oE (mVar 12))))) (mTru (oE (mIsi "list" (oE (mOp gIx (oE (mVar 12)) (oE (mC (.int 0)))))))))) (sSeq (sTlApp 12 13 "more")
    (sIf (mNot (mTru (oE (mCallV 2 (F_law_same 12) (msCons (oE (mTf (mCall 3 F_law_told (msCons (oE (mVar 2)) (msCons (oE (mVar 7)) (msCons (oE (mVar 5)) msNil)))))) (msCons (oE (mVar 6)) msNil)))))) (sRet (mC (.bool false))) sNext)) sNext))))))))
def Lw5 : Sm := (sRet (mC (.bool true)))
theorem B_law_is : B_law = (sSeq Lw1 (sSeq Lw2 (sSeq Lw3 (sSeq Lw4 Lw5)))) := rfl
def Lb1 : Sm := (sSet 5 (mCall 3 F_law_deed (msCons (oE (mVar 1)) (msCons (oE (mVar 2)) (msCons (oE (mVar 3)) msNil)))))
def Lb2 : Sm := (sPar [6, 7] (msCons (mCall 3 F_law_due (msCons (oE (mVar 2)) (msCons (oE (mVar 3)) (msCons (oE (mVar 5)) msNil)))) (msCons (mCall 1 F_law_copiedO (msCons (oE (mVar 3)) msNil)) msNil)))
def Lb3 : Sm := (sIf (mBl (mOp (bo gEq) (oE (mOp gMod (oE (mVar 4)) (oE (mC (.int 3))))) (oE (mC (.int 1))))) (sSet 7 (mCallB gTuple (msCons (oE (mLcO 3 (.nm 8) [8] mYes (fE (oE (mCallB gTuple (msCons (oE (mVar 8)) msNil)))))) msNil))) sNext)
def Lb4 : Sm := (sIf (mBl (mOp (bo gEq) (oE (mOp gMod (oE (mVar 4)) (oE (mC (.int 3))))) (oE (mC (.int 2))))) (sSeq (sSet 7 (mLcO 3 (.nm 8) [8] mYes (fE (oE (mLc (mIt (fE (oE (mVar 8)))) (.nm 9) [9] mYes (fE (oE (mCallB gList (msCons (oE (mVar 9)) msNil)))))))))
    (sSet 5 (mLc (mIt (fE (oE (mVar 5)))) (.nm 10) [10] mYes (fE (oE (mIfE (mTru (oE (mIsi "tuple" (oE (mVar 10))))) (mCallB gList (msCons (oE (mVar 10)) msNil)) (mVar 10))))))) sNext)
def Lb5 : Sm := (sPar [11, 12] (msCons (mCallB gRepr (msCons (oE (mLst (dsCons (fE (oE (mVar 7))) (dsCons (fE (oE (mVar 5))) dsNil)))) msNil)) (msCons (mCall 3 F_law_told (msCons (oE (mVar 2)) (msCons (oE (mVar 7)) (msCons (oE (mVar 5)) msNil)))) msNil)))
def Lb6 : Sm := (sIf (mLookB (mOr (mNot (mTru (oE (mCallV 2 (F_law_same 12) (msCons (oE (mVar 12)) (msCons (oE (mVar 6)) msNil)))))) (mBl (mOp (bo gNe) (oE (mCallB gRepr (msCons (oE (mLst (dsCons (fE (oE (mVar 7))) (dsCons (fE (oE (mVar 5))) dsNil)))) msNil))) (oE (mVar 11)))))) (sRet (mC (.bool false))) sNext)
def Lb7 : Sm := (sIf (mLookB (mAnd (mTru (oE (mIsi "tuple" (oE (mVar 12))))) (mTru (oE (mIsi "list" (oE (mOp gIx (oE (mVar 12)) (oE (mC (.int 0)))))))))) (sSeq (sTlApp 12 13 "more")
    (sIf (mNot (mTru (oE (mCallV 2 (F_law_same 12) (msCons (oE (mTf (mCall 3 F_law_told (msCons (oE (mVar 2)) (msCons (oE (mVar 7)) (msCons (oE (mVar 5)) msNil)))))) (msCons (oE (mVar 6)) msNil)))))) (sRet (mC (.bool false))) sNext)) sNext)
def Lb : Sm := (sSeq Lb1 (sSeq Lb2 (sSeq Lb3 (sSeq Lb4 (sSeq Lb5 (sSeq Lb6 
Lb7))))))theorem Lw4_is : Lw4 = sFor (mRng1 (msCons (oE (mC (.int 30))) msNil)) (.nm 4) Lb := rfl
theorem e_copied {ct : List (List RX)} (hz : ct.length ≤ 100) (hr : ∀ rs ∈ ct, rs.length ≤ 100) : F_law_copiedO [some (.own (.lst (ct.map rowsC)))] = .ok (.new (.lst (ct.map rowsC))) [some (.own (.lst (ct.map rowsC)))] := by
  have c := lcO_map (i := 0) (p := .nm 1) (vs := [1]) (m := fE (oE (mCallB gList (msCons (oE (mVar 1)) msNil)))) (g := rowsC) (f := rowsC) (ε := [some (.own (.lst (ct.map rowsC))), none]) (xs := ct) rfl (sz_of (by omega))
    (fun rs hrs => by
      have e : ∀ ε : En, outR (gList [rowsC rs]) ε = .ok (.new (.lst (rs.map rowC))) ε := fun ε => by
        have : (rs.map rowC).length ≤ sizeLine := by rw [List.length_map]; exact sz_of (by have := hr rs hrs; omega)
        simp [gList, rowsC, outR]
      have er : rowsC rs = .list (rs.map rowC) := rfl
      generalize ct.map rowsC = F at *
      exact ⟨[some (.own (.lst F)), some (.fro (rowsC rs))], [some (.own (.lst F)), some (.fro (rowsC rs))], by simp, by simp [e]; exact er.symm, by simp⟩) ct.length (Nat.le_refl _)
  rw [Nat.sub_self, List.take_zero, List.map_nil] at c
  have la : M3.lstAt [some (.own (.lst (ct.map rowsC))), none] 0 = some (ct.map rowsC) := rfl
  rw [show ct.length = (ct.map rowsC).length from List.length_map _ |>.symm] at c
  generalize ct.map rowsC = F at *
  simp [F_law_copiedO, B_law_copiedO, la, c]
theorem deed_shape {ts : List M5.TT} {d : D} (h : DeedP ts d) (hc : ∀ t ∈ ts, t.2.length ≤ 5) : ∃ ps, d = .tuple ps ∧ ps.length ≤ 5 ∧ ∀ x ∈ ps, ∀ xs, x = .tuple xs → xs.length ≤ 1000 := by
  cases h with
  | @put k t r ht ro =>
    refine ⟨_, rfl, by simp, fun x hx xs e => ?_⟩
    simp only [List.mem_cons, List.not_mem_nil, or_false] at hx
    rcases hx with rfl | rfl | rfl
    · cases e
    · cases e
    · cases e; rw [List.length_cons]; have := ro.l; have := hc t (List.mem_of_getElem? ht); omega
  | drop ht wi =>
    refine ⟨_, rfl, by simp, fun x hx xs e => ?_⟩
    simp only [List.mem_cons, List.not_mem_nil, or_false] at hx
    rcases hx with rfl | rfl | rfl <;> cases e
  | set ht hc wi wv =>
    refine ⟨_, rfl, by simp, fun x hx xs e => ?_⟩
    simp only [List.mem_cons, List.not_mem_nil, or_false] at hx
    rcases hx with rfl | rfl | rfl | rfl | rfl
    · cases e
    · cases e
    · cases e
    · cases e
    · rcases wv with z | ⟨_, z, _, _⟩ <;> (rw [z] at e; cases e)
  | sweep ht hc wv =>
    refine ⟨_, rfl, by simp, fun x hx xs e => ?_⟩
    simp only [List.mem_cons, List.not_mem_nil, or_false] at hx
    rcases hx with rfl | rfl | rfl | rfl
    · cases e
    · cases e
    · cases e
    · rcases wv with z | ⟨_, z, _, _⟩ <;> (rw [z] at e; cases e)
  | shift ht hc wi =>
    refine ⟨_, rfl, by simp, fun x hx xs e => ?_⟩
    simp only [List.mem_cons, List.not_mem_nil, or_false] at hx
    rcases hx with rfl | rfl | rfl | rfl <;> cases e
/-- the deed and the content are handed in, in one of three ways -/
theorem hand_ok {ts : List M5.TT} (hT : GoodT ts) (hl : ts.length ≤ 6) {ct : List (List RX)} (hC : CtOk ts ct) {d xd : D} (hp : DeedP ts d) (i : Int) (i0 : 0 ≤ i) (a0 : Option SV) (cs : List Int) (t : Int) (x11 x12 x13 : Option SV) : ∃ (HD dd : D) (v5 v7 : SV) (E : En), Handed ct HD ∧ Hnd d dd ∧ (v5 = .fro dd ∨ ∃ l, v5 = .own (.lst l) ∧ dd = .list l) ∧ (v7 = .fro HD ∨ ∃ l, v7 = .own (.lst l) ∧ HD = .list l) ∧
    Lb3 [a0, sT cs t, fT ts, some (.own (.lst (ct.map rowsC))), some (.fro (.int i)), some (.fro d), some (.fro xd), some (.own (.lst (ct.map rowsC))), none, none, none, x11, x12, x13] = .nx E ∧ Lb4 E = .nx [a0, sT cs t, fT ts, some (.own (.lst (ct.map rowsC))), some (.fro (.int i)), some v5, some (.fro xd), some v7, none, none, none, x11, x12, x13] := by
  have cl : ct.length ≤ 6 := by rw [hC.l]; exact hl
  have rl : ∀ rs ∈ ct, rs.length ≤ 10 ∧ ∀ r ∈ rs, r.2.length ≤ 100 := fun rs hr => by
    obtain ⟨k, hk⟩ := List.getElem?_of_mem hr
    have hkt : k < ts.length := by rw [← hC.l]; exact lt_get hk
    have ro := hC.g k _ rs (List.getElem?_eq_getElem hkt) hk
    have gc := (hT.g _ (List.getElem_mem hkt)).2.l
    exact ⟨ro.l, fun r hr => by have := (ro.r r hr).l; omega⟩
  have gm : gMod (.int i) (.int 3) = some (.val (.int (i % 3))) := gMod_i (by omega)
  have m0 := Int.emod_nonneg i (show (3 : Int) ≠ 0 by omega)
  have m3 := Int.emod_lt_of_pos i (show (0 : Int) < 3 by omega)
  have hm : i % 3 = 0 ∨ i % 3 = 1 ∨ i % 3 = 2 := by omega
  have la : ∀ (F : List D) (b c d e f g h : Option SV), M3.lstAt [a0, b, c, some (.own (.lst F)), d, e, f, g, none, none, none, h, x12, x13] 3 = some F := fun _ _ _ _ _ _ _ _ => rfl
  have ei : ∀ rs : List RX, itemsD (rowsC rs) = some (rs.map rowC) := fun _ => rfl
  rcases hm with hm | hm | hm
  · rw [hm] at gm
    refine ⟨H0 ct, d, .fro d, .own (.lst (ct.map rowsC)), [a0, sT cs t, fT ts, some (.own (.lst (ct.map rowsC))), some (.fro (.int i)), some (.fro d), some (.fro xd), some (.own (.lst (ct.map rowsC))), none, none, none, x11, x12, x13], .inl rfl, .inl rfl, .inl rfl, .inr ⟨_, rfl, rfl⟩, ?_, ?_⟩
    · generalize ct.map rowsC = F at *
      simp [Lb3, gm, gEq_int]
    · generalize ct.map rowsC = F at *
      simp [Lb4, gm, gEq_int]
  · rw [hm] at gm
    have c := lcO_map (i := 3) (p := .nm 8) (vs := [8]) (m := fE (oE (mCallB gTuple (msCons (oE (mVar 8)) msNil)))) (g := rowsC) (f := fun rs => .tuple (rs.map rowC)) (ε := [a0, sT cs t, fT ts, some (.own (.lst (ct.map rowsC))), some (.fro (.int i)), some (.fro d), some (.fro xd), some (.own (.lst (ct.map rowsC))), none, none, none, x11, x12, x13]) (xs := ct) rfl (sz_of (by omega))
      (fun rs hr => by
        have hz : (rs.map rowC).length ≤ sizeLine := by rw [List.length_map]; exact sz_of (by have := (rl rs hr).1; omega)
        have er : rowsC rs = .list (rs.map rowC) := rfl
        have e : ∀ ε : En, outR (gTuple [rowsC rs]) ε = .ok (.fro (.tuple (rs.map rowC))) ε := fun ε => by
          rw [er]
          generalize rs.map rowC = RM at *
          simp [gTuple, outR, hz]
        generalize rs.map rowC = RM at *
        generalize ct.map rowsC = F at *
        exact ⟨[a0, sT cs t, fT ts, some (.own (.lst F)), some (.fro (.int i)), some (.fro d), some (.fro xd), some (.own (.lst F)), some (.fro (rowsC rs)), none, none, x11, x12, x13], [a0, sT cs t, fT ts, some (.own (.lst F)), some (.fro (.int i)), some (.fro d), some (.fro xd), some (.own (.lst F)), some (.fro (rowsC rs)), none, none, x11, x12, x13], by simp, by simp [e], by simp⟩) ct.length (Nat.le_refl _)
    rw [Nat.sub_self, List.take_zero, List.map_nil] at c
    rw [show ct.length = (ct.map rowsC).length from List.length_map _ |>.symm] at c
    have hz : (ct.map fun rs => PyData.tuple (rs.map rowC)).length ≤ sizeLine := by rw [List.length_map]; exact sz_of (by omega)
    refine ⟨H2 ct, d, .fro d, .fro (H2 ct), [a0, sT cs t, fT ts, some (.own (.lst (ct.map rowsC))), some (.fro (.int i)), some (.fro d), some (.fro xd), some (.fro (H2 ct)), none, none, none, x11, x12, x13], .inr (.inr rfl), .inl rfl, .inl rfl, .inl rfl, ?_, ?_⟩
    · unfold H2
      generalize ct.map (fun rs => PyData.tuple (rs.map rowC)) = G at *
      generalize ct.map rowsC = F at *
      simp [Lb3, gm, gEq_int, la, c, gTuple, outR, hz]
    · unfold H2
      generalize ct.map (fun rs => PyData.tuple (rs.map rowC)) = G at *
      generalize ct.map rowsC = F at *
      simp [Lb4, gm, gEq_int]
  · rw [hm] at gm
    obtain ⟨ps, rfl, pl, hps⟩ := deed_shape hp fun t ht => (hT.g t ht).2.l
    have inner : ∀ rs ∈ ct, lcLoop (.nm 9) [9] mYes (fE (oE (mCallB gList (msCons (oE (mVar 9)) msNil)))) (rs.map rowC) [] [a0, sT cs t, fT ts, some (.own (.lst (ct.map rowsC))), some (.fro (.int i)), some (.fro (.tuple ps)), some (.fro xd), some (.own (.lst (ct.map rowsC))), some (.fro (rowsC rs)), none, none, x11, x12, x13] = .ok (rs.map rowL) [a0, sT cs t, fT ts, some (.own (.lst (ct.map rowsC))), some (.fro (.int i)), some (.fro (.tuple ps)), some (.fro xd), some (.own (.lst (ct.map rowsC))), some (.fro (rowsC rs)), none, none, x11, x12, x13] := fun rs hr => by
      have c := lc_map (p := .nm 9) (vs := [9]) (m := fE (oE (mCallB gList (msCons (oE (mVar 9)) msNil)))) (g := rowC) (f := rowL) (ε := [a0, sT cs t, fT ts, some (.own (.lst (ct.map rowsC))), some (.fro (.int i)), some (.fro (.tuple ps)), some (.fro xd), some (.own (.lst (ct.map rowsC))), some (.fro (rowsC rs)), none, none, x11, x12, x13]) (xs := rs) (acc := [])
        (fun r hrr => by
          have hz : (PyData.int r.1 :: r.2).length ≤ sizeLine := by rw [List.length_cons]; exact sz_of (by have := (rl rs hr).2 r hrr; omega)
          have e : ∀ ε : En, outR (gList [rowC r]) ε = .ok (.new (.lst (.int r.1 :: r.2))) ε := fun ε => by simp [gList, rowC, outR]
          have er : rowL r = .list (.int r.1 :: r.2) := rfl
          rw [er]
          generalize PyData.int r.1 :: r.2 = RR at *
          generalize rowsC rs = RS at *
          generalize ct.map rowsC = F at *
          exact ⟨[a0, sT cs t, fT ts, some (.own (.lst F)), some (.fro (.int i)), some (.fro (.tuple ps)), some (.fro xd), some (.own (.lst F)), some (.fro RS), some (.fro (rowC r)), none, x11, x12, x13], [a0, sT cs t, fT ts, some (.own (.lst F)), some (.fro (.int i)), some (.fro (.tuple ps)), some (.fro xd), some (.own (.lst F)), some (.fro RS), some (.fro (rowC r)), none, x11, x12, x13], by simp, by simp [e], by simp⟩) (by have := (rl rs hr).1; simpa using sz_of (by omega))
      rw [List.nil_append] at c
      exact c
    have c := lcO_map (i := 3) (p := .nm 8) (vs := [8]) (m := fE (oE (mLc (mIt (fE (oE (mVar 8)))) (.nm 9) [9] mYes (fE (oE (mCallB gList (msCons (oE (mVar 9)) msNil))))))) (g := rowsC) (f := fun rs => .list (rs.map rowL)) (ε := [a0, sT cs t, fT ts, some (.own (.lst (ct.map rowsC))), some (.fro (.int i)), some (.fro (.tuple ps)), some (.fro xd), some (.own (.lst (ct.map rowsC))), none, none, none, x11, x12, x13]) (xs := ct) rfl (sz_of (by omega))
      (fun rs hr => by
        have c := inner rs hr
        have ec := ei rs
        generalize rs.map rowL = RM at *
        generalize rs.map rowC = RM2 at *
        generalize rowsC rs = RS at *
        generalize ct.map rowsC = F at *
        exact ⟨[a0, sT cs t, fT ts, some (.own (.lst F)), some (.fro (.int i)), some (.fro (.tuple ps)), some (.fro xd), some (.own (.lst F)), some (.fro RS), none, none, x11, x12, x13], [a0, sT cs t, fT ts, some (.own (.lst F)), some (.fro (.int i)), some (.fro (.tuple ps)), some (.fro xd), some (.own (.lst F)), some (.fro RS), none, none, x11, x12, x13], by simp, by simp [ec, c], by simp⟩) ct.length (Nat.le_refl _)
    rw [Nat.sub_self, List.take_zero, List.map_nil] at c
    rw [show ct.length = (ct.map rowsC).length from List.length_map _ |>.symm] at c
    have c2 := lc_map (p := .nm 10) (vs := [10]) (m := fE (oE (mIfE (mTru (oE (mIsi "tuple" (oE (mVar 10))))) (mCallB gList (msCons (oE (mVar 10)) msNil)) (mVar 10)))) (g := fun x : D => x) (f := lf) (ε := [a0, sT cs t, fT ts, some (.own (.lst (ct.map rowsC))), some (.fro (.int i)), some (.fro (.tuple ps)), some (.fro xd), some (.own (.lst (ct.map fun rs => .list (rs.map rowL)))), none, none, none, x11, x12, x13]) (xs := ps) (acc := [])
      (fun x hx => by
        have hz := hps x hx
        generalize ct.map (fun rs => PyData.list (rs.map rowL)) = G at *
        generalize ct.map rowsC = F at *
        refine ⟨[a0, sT cs t, fT ts, some (.own (.lst F)), some (.fro (.int i)), some (.fro (.tuple ps)), some (.fro xd), some (.own (.lst G)), none, none, some (.fro x), x11, x12, x13], [a0, sT cs t, fT ts, some (.own (.lst F)), some (.fro (.int i)), some (.fro (.tuple ps)), some (.fro xd), some (.own (.lst G)), none, none, some (.fro x), x11, x12, x13], by simp, ?_, by simp⟩
        cases x with
        | tuple xs =>
          have hz : xs.length ≤ sizeLine := sz_of (hz xs rfl)
          simp [isi_tuple, is_tuple, gList, outR, lf, hz]
        | _ => simp [isi_tuple, is_tuple, lf]) (by simpa using sz_of (by omega))
    rw [List.nil_append, List.map_id'] at c2
    have it : itemsD (.tuple ps) = some ps := rfl
    refine ⟨H1 ct, .list (ps.map lf), .own (.lst (ps.map lf)), .own (.lst (ct.map fun rs => .list (rs.map rowL))), [a0, sT cs t, fT ts, some (.own (.lst (ct.map rowsC))), some (.fro (.int i)), some (.fro (.tuple ps)), some (.fro xd), some (.own (.lst (ct.map rowsC))), none, none, none, x11, x12, x13], .inr (.inl rfl), .inr ⟨ps, rfl, rfl⟩, .inr ⟨_, rfl, rfl⟩, .inr ⟨_, rfl, rfl⟩, ?_, ?_⟩
    · generalize ct.map rowsC = F at *
      simp [Lb3, gm, gEq_int]
    · generalize ct.map (fun rs => PyData.list (rs.map rowL)) = G at *
      generalize ct.map rowsC = F at *
      generalize ps.map lf = PL at *
      simp [Lb4, gm, gEq_int, la, c, it, c2]
end GA

namespace GA
open PySem PySem.Spec L2 M3 M4 M5
open PyProof.Rows hiding St
open GC (lc_map lc_filtM zip_same gNe_bool sz_of trues trues2 Sw RX rowC rowsC RowOk RowsOk CtOk HdOk rowL H0 H1 H2 Handed wEq gEq_wd wEq_iff e_tp e_cp e_rows e_row rowOf fn_at gIdx_L handed_fi handed_hd two_okd plD NSx x_raise cellJ cell_ok gAdd_ll cut_from hd_cell hd_tp)
theorem gNe_same (z : Str) : gNe (.str z) (.str z) = some false := gNe_of (gEq_same z)
section
variable {ts : List M5.TT} (hT : GoodT ts) (hne : ts ≠ []) (hl : ts.length ≤ 6) {ct : List (List RX)} (hG : GoodCt ts ct)
include hT hne hl hG
theorem turn_ok (a0 : Option SV) (cs : List Int) (t : Int) (hc : cs ≠ []) (ht : 0 ≤ t) (ht2 : t < 400000) (i : Int) (i0 : 0 ≤ i) (x5 x6 x7 x11 x12 x13 : Option SV) : ∃ cs' t' y5 y6 y7 y11 y12 y13, cs' ≠ [] ∧ t ≤ t' ∧ t' ≤ t + 40 ∧
    Lb [a0, sT cs t, fT ts, some (.own (.lst (ct.map rowsC))), some (.fro (.int i)), x5, x6, x7, none, none, none, x11, x12, x13] = .nx [a0, sT cs' t', fT ts, some (.own (.lst (ct.map rowsC))), some (.fro (.int i)), y5, y6, y7, none, none, none, y11, y12, y13] := by
  have hC := ct_of hG
  have cl : ct.length ≤ 6 := by rw [hC.l]; exact hl
  have rl : ∀ rs ∈ ct, rs.length ≤ 100 := fun rs hr => by
    obtain ⟨k, hk⟩ := List.getElem?_of_mem hr
    have hkt : k < ts.length := by rw [← hC.l]; exact lt_get hk
    have := (hC.g k _ rs (List.getElem?_eq_getElem hkt) hk).l
    omega
  obtain ⟨d, cs', t', pd, _, c1, t0, t1, e1⟩ := deed_ok ts hT hne (by omega) ct hG cs t hc ht (by omega)
  have e1 : F_law_deed [sT cs t, fT ts, some (.own (.lst (ct.map rowsC)))] = .ok (.fro d) [sT cs' t', fT ts, some (.own (.lst (ct.map rowsC)))] := e1
  have hp := deed_inv pd
  have e3 := e_copied (ct := ct) (by omega) rl
  obtain ⟨x, due0, _⟩ : ∃ x, Due d ts ct x ∧ True := by
    obtain ⟨x, h, _⟩ := ans_ok hT (by omega) hC (GC.hd0 ts ct) hp (.inl rfl)
    exact ⟨x, h, trivial⟩
  obtain ⟨HD, dd, v5, v7, E, hH, hs, h5, h7, f3, f4⟩ := hand_ok hT hl hC (xd := x) hp i i0 a0 cs' t' x11 x12 x13
  obtain ⟨rg, hd⟩ := handed_hd (ts := ts) hH
  obtain ⟨x2, due, sw, hR⟩ := ans_ok hT (by omega) hC hd hp hs
  obtain rfl : x = x2 := by
    unfold Due at due due0
    rw [due0] at due
    injection due with q _
    injection q
  unfold Due dueE at due
  have ok := two_ok hT hl hC hH hp hs
  obtain ⟨Z, hZ⟩ : ∃ Z : Str, Z = PyData.shown (.list [HD, dd]) := ⟨_, rfl⟩
  have gr := gRepr_ok ok
  rw [← hZ] at gr
  have gn := gNe_same Z
  have sm := same12 sw
  have z2 : (2 : Nat) ≤ sizeLine := sz_of (by omega)
  have f1 : Lb1 [a0, sT cs t, fT ts, some (.own (.lst (ct.map rowsC))), some (.fro (.int i)), x5, x6, x7, none, none, none, x11, x12, x13] = .nx [a0, sT cs' t', fT ts, some (.own (.lst (ct.map rowsC))), some (.fro (.int i)), some (.fro d), x6, x7, none, none, none, x11, x12, x13] := by
    generalize ct.map rowsC = F at *
    simp [Lb1, e1]
  have f2 : Lb2 [a0, sT cs' t', fT ts, some (.own (.lst (ct.map rowsC))), some (.fro (.int i)), some (.fro d), x6, x7, none, none, none, x11, x12, x13] = .nx [a0, sT cs' t', fT ts, some (.own (.lst (ct.map rowsC))), some (.fro (.int i)), some (.fro d), some (.fro x), some (.own (.lst (ct.map rowsC))), none, none, none, x11, x12, x13] := by
    generalize ct.map rowsC = F at *
    simp [Lb2, due, e3]
  rcases hR with ⟨a, b, c, et, ex, la, lb, lc⟩ | ⟨z, y, w, et, ex⟩
  · have f5 : Lb5 [a0, sT cs' t', fT ts, some (.own (.lst (ct.map rowsC))), some (.fro (.int i)), some v5, some (.fro x), some v7, none, none, none, x11, x12, x13] = .nx [a0, sT cs' t', fT ts, some (.own (.lst (ct.map rowsC))), some (.fro (.int i)), some (.fro dd), some (.fro x), some (.fro HD), none, none, none, fS Z, some (.own (.tl [a, b, c])), x13] := by
      generalize ct.map rowsC = F at *
      rcases h5 with rfl | ⟨l5, rfl, rfl⟩
      · rcases h7 with rfl | ⟨l7, rfl, rfl⟩
        · simp [Lb5, gr, z2, et]
        · simp [Lb5, gr, z2, et]
      · rcases h7 with rfl | ⟨l7, rfl, rfl⟩
        · simp [Lb5, gr, z2, et]
        · simp [Lb5, gr, z2, et]
    have g0 : gIx x (.int 0) = some (.val (.list a)) := by rw [ex]; simp [gIx, atI, ixN]
    have it : isiD x "tuple" = some true := by rw [ex, isi_tuple]; rfl
    have il : isiD (.list a) "list" = some true := by rw [isi_list]; rfl
    have fx : froS (some (.own (.tl [a, b, c]))) = some (.fro x) := by rw [ex]; rfl
    have f6 : Lb6 [a0, sT cs' t', fT ts, some (.own (.lst (ct.map rowsC))), some (.fro (.int i)), some (.fro dd), some (.fro x), some (.fro HD), none, none, none, fS Z, some (.own (.tl [a, b, c])), x13] = .nx [a0, sT cs' t', fT ts, some (.own (.lst (ct.map rowsC))), some (.fro (.int i)), some (.fro dd), some (.fro x), some (.fro HD), none, none, none, fS Z, some (.own (.tl [a, b, c])), x13] := by
      generalize ct.map rowsC = F at *
      simp [Lb6, -froS_tl, fx, sm, gr, z2, gn]
    have sa : a.length < sizeLine := by rw [sizeLine_eq]; omega
    have sb : b.length < sizeLine := by rw [sizeLine_eq]; omega
    have sc : c.length < sizeLine := by rw [sizeLine_eq]; omega
    have f7 : Lb7 [a0, sT cs' t', fT ts, some (.own (.lst (ct.map rowsC))), some (.fro (.int i)), some (.fro dd), some (.fro x), some (.fro HD), none, none, none, fS Z, some (.own (.tl [a, b, c])), x13] = .nx [a0, sT cs' t', fT ts, some (.own (.lst (ct.map rowsC))), some (.fro (.int i)), some (.fro dd), some (.fro x), some (.fro HD), none, none, none, fS Z, some (.own (.tl [a ++ [.str "more"], b ++ [.str "more"], c ++ [.str "more"]])), none] := by
      generalize ct.map rowsC = F at *
      have et2 : (mTf (mCall 3 F_law_told (msCons (oE (mVar 2)) (msCons (oE (mVar 7)) (msCons (oE (mVar 5)) msNil))))) [a0, sT cs' t', fT ts, some (.own (.lst F)), some (.fro (.int i)), some (.fro dd), some (.fro x), some (.fro HD), none, none, none, fS Z, some (.own (.tl [a ++ [.str "more"], b ++ [.str "more"], c ++ [.str "more"]])), none] = .ok (.fro x) [a0, sT cs' t', fT ts, some (.own (.lst F)), some (.fro (.int i)), some (.fro dd), some (.fro x), some (.fro HD), none, none, none, fS Z, some (.own (.tl [a ++ [.str "more"], b ++ [.str "more"], c ++ [.str "more"]])), none] := by
        rw [ex]
        simp [et]
      simp [Lb7, -froS_tl, -x_tf, fx, it, g0, il, sa, sb, sc, et2, sm]
    exact ⟨cs', t', _, _, _, _, _, _, c1, t0, t1, by unfold Lb; rw [x_seq, f1, x_q1, x_seq, f2, x_q1, x_seq, f3, x_q1, x_seq, f4, x_q1, x_seq, f5, x_q1, x_seq, f6, x_q1, f7]⟩
  · have f5 : Lb5 [a0, sT cs' t', fT ts, some (.own (.lst (ct.map rowsC))), some (.fro (.int i)), some v5, some (.fro x), some v7, none, none, none, x11, x12, x13] = .nx [a0, sT cs' t', fT ts, some (.own (.lst (ct.map rowsC))), some (.fro (.int i)), some (.fro dd), some (.fro x), some (.fro HD), none, none, none, fS Z, some (.fro x), x13] := by
      generalize ct.map rowsC = F at *
      rcases h5 with rfl | ⟨l5, rfl, rfl⟩
      · rcases h7 with rfl | ⟨l7, rfl, rfl⟩
        · simp [Lb5, gr, z2, et]
        · simp [Lb5, gr, z2, et]
      · rcases h7 with rfl | ⟨l7, rfl, rfl⟩
        · simp [Lb5, gr, z2, et]
        · simp [Lb5, gr, z2, et]
    have g0 : gIx x (.int 0) = some (.val (.str z)) := by rw [ex]; simp [gIx, atI, ixN]
    have it : isiD x "tuple" = some true := by rw [ex, isi_tuple]; rfl
    have il : isiD (.str z) "list" = some false := by rw [isi_list]; rfl
    have f6 : Lb6 [a0, sT cs' t', fT ts, some (.own (.lst (ct.map rowsC))), some (.fro (.int i)), some (.fro dd), some (.fro x), some (.fro HD), none, none, none, fS Z, some (.fro x), x13] = .nx [a0, sT cs' t', fT ts, some (.own (.lst (ct.map rowsC))), some (.fro (.int i)), some (.fro dd), some (.fro x), some (.fro HD), none, none, none, fS Z, some (.fro x), x13] := by
      generalize ct.map rowsC = F at *
      simp [Lb6, sm, gr, z2, gn]
    have f7 : Lb7 [a0, sT cs' t', fT ts, some (.own (.lst (ct.map rowsC))), some (.fro (.int i)), some (.fro dd), some (.fro x), some (.fro HD), none, none, none, fS Z, some (.fro x), x13] = .nx [a0, sT cs' t', fT ts, some (.own (.lst (ct.map rowsC))), some (.fro (.int i)), some (.fro dd), some (.fro x), some (.fro HD), none, none, none, fS Z, some (.fro x), x13] := by
      generalize ct.map rowsC = F at *
      simp [Lb7, it, g0, il]
    exact ⟨cs', t', _, _, _, _, _, _, c1, t0, t1, by unfold Lb; rw [x_seq, f1, x_q1, x_seq, f2, x_q1, x_seq, f3, x_q1, x_seq, f4, x_q1, x_seq, f5, x_q1, x_seq, f6, x_q1, f7]⟩
end
theorem law_true (ns : List Int) (h : ns.length ≤ 63) : ∃ ε', F_law [some (.scr ns)] = .ok (.fro (.bool true)) ε' := by
  obtain ⟨cs, hc, e⟩ := begin_ok ns
  obtain ⟨q, cs1, q0, q1, c1, e1⟩ := take_ok cs 0 4 hc (by omega) (by omega) (by omega) (by omega)
  have e01 : (0 : Int) + 1 = 1 := by omega
  rw [e01] at e1
  obtain ⟨cs2, t2, ts, c2, t20, t21, hl, hT, e2⟩ := tables_ok cs1 1 (1 + q) 5 c1 (by omega) (by omega) (by omega) (by omega) (by omega) (by omega)
  obtain ⟨a, cs3, a0, a1, c3, e3⟩ := take_ok cs2 t2 6 c2 (by omega) (by omega) (by omega) (by omega)
  obtain ⟨ct, cs4, t4, hG, c4, t40, t41, e4⟩ := content_ok ts hT (by omega) cs3 (t2 + 1) (1 + a) c3 (by omega) (by omega) (by omega) (by omega)
  have e4 : F_law_content [sT cs3 (t2 + 1), fT ts, fI (1 + a)] = .ok (.new (.lst (ct.map rowsC))) [sT cs4 t4, fT ts, fI (1 + a)] := e4
  have hne : ts ≠ [] := by
    rintro rfl
    simp at hl
    omega
  obtain ⟨ε', el, cs5, t5, x4, x5, x6, x7, x11, x12, x13, _, _, _, rfl⟩ := loop_nx (p := .nm 4) (body := Lb) (fun i ε => ∃ cs t x4 x5 x6 x7 x11 x12 x13, cs ≠ [] ∧ 0 ≤ t ∧ t ≤ 60000 + 40 * (i : Int) ∧ ε = [some (.scr ns), sT cs t, fT ts, some (.own (.lst (ct.map rowsC))), x4, x5, x6, x7, none, none, none, x11, x12, x13])
    (ds := rngD 0 30) (k := 0) (ε := [some (.scr ns), sT cs4 t4, fT ts, some (.own (.lst (ct.map rowsC))), none, none, none, none, none, none, none, none, none, none]) ⟨cs4, t4, none, none, none, none, none, none, none, c4, by omega, by omega, rfl⟩ (fun i d ε hi hI => by
      obtain ⟨cs, t, x4, x5, x6, x7, x11, x12, x13, hc, h0, h1, rfl⟩ := hI
      have hil : i < 30 := by have := lt_get hi; simpa [rngD] using this
      obtain ⟨rfl, _⟩ := M5.rng_at hi
      obtain ⟨cs', t', y5, y6, y7, y11, y12, y13, c1, t0, t1, e⟩ := turn_ok hT hne (by omega) hG (some (.scr ns)) cs t hc h0 (by omega) (0 + (i : Int)) (by omega) x5 x6 x7 x11 x12 x13
      exact ⟨[some (.scr ns), sT cs t, fT ts, some (.own (.lst (ct.map rowsC))), some (.fro (.int (0 + (i : Int)))), x5, x6, x7, none, none, none, x11, x12, x13], _, by simp, e, cs', t', _, y5, y6, y7, y11, y12, y13, c1, by omega, by omega, rfl⟩)
  have f1 : Lw1 [some (.scr ns), none, none, none, none, none, none, none, none, none, none, none, none, none] = .nx [some (.scr ns), sT cs 0, none, none, none, none, none, none, none, none, none, none, none, none] := by simp [Lw1, e]
  have f2 : Lw2 [some (.scr ns), sT cs 0, none, none, none, none, none, none, none, none, none, none, none, none] = .nx [some (.scr ns), sT cs2 t2, fT ts, none, none, none, none, none, none, none, none, none, none, none] := by simp [Lw2, e1, gAdd_i, e2]
  have f3 : Lw3 [some (.scr ns), sT cs2 t2, fT ts, none, none, none, none, none, none, none, none, none, none, none] = .nx [some (.scr ns), sT cs4 t4, fT ts, some (.own (.lst (ct.map rowsC))), none, none, none, none, none, none, none, none, none, none] := by
    generalize ct.map rowsC = F at *
    simp [Lw3, e3, gAdd_i, e4]
  have f4 : Lw4 [some (.scr ns), sT cs4 t4, fT ts, some (.own (.lst (ct.map rowsC))), none, none, none, none, none, none, none, none, none, none] = .nx [some (.scr ns), sT cs5 t5, fT ts, some (.own (.lst (ct.map rowsC))), x4, x5, x6, x7, none, none, none, x11, x12, x13] := by
    generalize ct.map rowsC = F at *
    simp [Lw4_is, el]
  refine ⟨_, fn_rt (E := [some (.scr ns), none, none, none, none, none, none, none, none, none, none, none, none, none]) rfl (by simp) rfl (ε' := [some (.scr ns), sT cs5 t5, fT ts, some (.own (.lst (ct.map rowsC))), x4, x5, x6, x7, none, none, none, x11, x12, x13]) ?_ rfl⟩
  rw [B_law_is, x_seq, f1, x_q1, x_seq, f2, x_q1, x_seq, f3, x_q1, x_seq, f4, x_q1]
  simp [Lw5]
end GA

namespace GA
open PySem PySem.Spec L2 M3 M4 M5
open PyProof.Rows hiding St
theorem scI_Taken : FnScope ["self", "table", "key"] ["self", "table", "key"] (defScope (defIn (topS 2) 0)) := ⟨rfl, rfl, rfl, by decide +kernel, rfl, by decide +kernel, by decide +kernel⟩
theorem scI_NoRow : FnScope ["self", "table", "key"] ["self", "table", "key"] (defScope (defIn (topS 3) 0)) := ⟨rfl, rfl, rfl, by decide +kernel, rfl, by decide +kernel, by decide +kernel⟩
theorem scI_NoSuch : FnScope ["self", "what", "name"] ["self", "what", "name"] (defScope (defIn (topS 5) 0)) := ⟨rfl, rfl, rfl, by decide +kernel, rfl, by decide +kernel, by decide +kernel⟩
theorem all_mk {P : Program} {w : World} {K : PySem.W.Frag} {h : Heap} {mg : Str → Option Value} {fa : Addr} (X : K.In h) (G : h.Ns mainGlobals mg) (hfa : mg "law" = some (.ref fa))
    {f0 : Addr} {od0 an0 : Option Addr} {sl0 : Array (Option Value)} {oc0 kV0 dc0 pm0 cd0 ct0 : Value}
    {f1 : Addr} {od1 an1 : Option Addr} {sl1 : Array (Option Value)} {oc1 kV1 dc1 pm1 cd1 ct1 : Value}
    {f2 : Addr} {od2 an2 : Option Addr} {sl2 : Array (Option Value)} {oc2 kV2 dc2 pm2 cd2 ct2 : Value}
    {f3 : Addr} {od3 an3 : Option Addr} {sl3 : Array (Option Value)} {oc3 kV3 dc3 pm3 cd3 ct3 : Value}
    {f4 : Addr} {od4 an4 : Option Addr} {sl4 : Array (Option Value)} {oc4 kV4 dc4 pm4 cd4 ct4 : Value}
    {f5 : Addr} {od5 an5 : Option Addr} {sl5 : Array (Option Value)} {oc5 kV5 dc5 pm5 cd5 ct5 : Value}
    {f6 : Addr} {od6 an6 : Option Addr} {sl6 : Array (Option Value)} {oc6 kV6 dc6 pm6 cd6 ct6 : Value}
    {f7 : Addr} {od7 an7 : Option Addr} {sl7 : Array (Option Value)} {oc7 kV7 dc7 pm7 cd7 ct7 : Value}
    {f8 : Addr} {od8 an8 : Option Addr} {sl8 : Array (Option Value)} {oc8 kV8 dc8 pm8 cd8 ct8 : Value}
    {f9 : Addr} {od9 an9 : Option Addr} {sl9 : Array (Option Value)} {oc9 kV9 dc9 pm9 cd9 ct9 : Value}
    {f10 : Addr} {od10 an10 : Option Addr} {sl10 : Array (Option Value)} {oc10 kV10 dc10 pm10 cd10 ct10 : Value}
    {f11 : Addr} {od11 an11 : Option Addr} {sl11 : Array (Option Value)} {oc11 kV11 dc11 pm11 cd11 ct11 : Value}
    {f12 : Addr} {od12 an12 : Option Addr} {sl12 : Array (Option Value)} {oc12 kV12 dc12 pm12 cd12 ct12 : Value}
    {f13 : Addr} {od13 an13 : Option Addr} {sl13 : Array (Option Value)} {oc13 kV13 dc13 pm13 cd13 ct13 : Value}
    {f14 : Addr} {od14 an14 : Option Addr} {sl14 : Array (Option Value)} {oc14 kV14 dc14 pm14 cd14 ct14 : Value}
    {f15 : Addr} {od15 an15 : Option Addr} {sl15 : Array (Option Value)} {oc15 kV15 dc15 pm15 cd15 ct15 : Value}
    {f16 : Addr} {od16 an16 : Option Addr} {sl16 : Array (Option Value)} {oc16 kV16 dc16 pm16 cd16 ct16 : Value}
    {f17 : Addr} {od17 an17 : Option Addr} {sl17 : Array (Option Value)} {oc17 kV17 dc17 pm17 cd17 ct17 : Value}
    {f18 : Addr} {od18 an18 : Option Addr} {sl18 : Array (Option Value)} {oc18 kV18 dc18 pm18 cd18 ct18 : Value}
    {f19 : Addr} {od19 an19 : Option Addr} {sl19 : Array (Option Value)} {oc19 kV19 dc19 pm19 cd19 ct19 : Value}
    {f20 : Addr} {od20 an20 : Option Addr} {sl20 : Array (Option Value)} {oc20 kV20 dc20 pm20 cd20 ct20 : Value}
    {f21 : Addr} {od21 an21 : Option Addr} {sl21 : Array (Option Value)} {oc21 kV21 dc21 pm21 cd21 ct21 : Value}
    {f22 : Addr} {od22 an22 : Option Addr} {sl22 : Array (Option Value)} {oc22 kV22 dc22 pm22 cd22 ct22 : Value}
    {f23 : Addr} {od23 an23 : Option Addr} {sl23 : Array (Option Value)} {oc23 kV23 dc23 pm23 cd23 ct23 : Value}
    {f24 : Addr} {od24 an24 : Option Addr} {sl24 : Array (Option Value)} {oc24 kV24 dc24 pm24 cd24 ct24 : Value}
    {f25 : Addr} {od25 an25 : Option Addr} {sl25 : Array (Option Value)} {oc25 kV25 dc25 pm25 cd25 ct25 : Value}
    (a0 : PySem.W.nsIn K mainGlobals "table_place" = some (some (.ref f0)))
    (l0 : K.lookup f0 = some ⟨oc0, od0, .func (PySem.W.fnOf "table_place" "table_place" (defArgs st_table_place) (defBody st_table_place) (defScope st_table_place) .none kV0 dc0 pm0 an0 cd0 ct0), sl0⟩)
    (c0 : PySem.W.codeIn K cd0 "table_place" = true)
    (k0 : PySem.W.keepIn K (.ref f0) = true)
    (a1 : PySem.W.nsIn K mainGlobals "columns_of" = some (some (.ref f1)))
    (l1 : K.lookup f1 = some ⟨oc1, od1, .func (PySem.W.fnOf "columns_of" "columns_of" (defArgs st_columns_of) (defBody st_columns_of) (defScope st_columns_of) .none kV1 dc1 pm1 an1 cd1 ct1), sl1⟩)
    (c1 : PySem.W.codeIn K cd1 "columns_of" = true)
    (k1 : PySem.W.keepIn K (.ref f1) = true)
    (a2 : PySem.W.nsIn K mainGlobals "column_place" = some (some (.ref f2)))
    (l2 : K.lookup f2 = some ⟨oc2, od2, .func (PySem.W.fnOf "column_place" "column_place" (defArgs st_column_place) (defBody st_column_place) (defScope st_column_place) .none kV2 dc2 pm2 an2 cd2 ct2), sl2⟩)
    (c2 : PySem.W.codeIn K cd2 "column_place" = true)
    (k2 : PySem.W.keepIn K (.ref f2) = true)
    (a3 : PySem.W.nsIn K mainGlobals "rows_of" = some (some (.ref f3)))
    (l3 : K.lookup f3 = some ⟨oc3, od3, .func (PySem.W.fnOf "rows_of" "rows_of" (defArgs st_rows_of) (defBody st_rows_of) (defScope st_rows_of) .none kV3 dc3 pm3 an3 cd3 ct3), sl3⟩)
    (c3 : PySem.W.codeIn K cd3 "rows_of" = true)
    (k3 : PySem.W.keepIn K (.ref f3) = true)
    (a4 : PySem.W.nsIn K mainGlobals "row_of" = some (some (.ref f4)))
    (l4 : K.lookup f4 = some ⟨oc4, od4, .func (PySem.W.fnOf "row_of" "row_of" (defArgs st_row_of) (defBody st_row_of) (defScope st_row_of) .none kV4 dc4 pm4 an4 cd4 ct4), sl4⟩)
    (c4 : PySem.W.codeIn K cd4 "row_of" = true)
    (k4 : PySem.W.keepIn K (.ref f4) = true)
    (a5 : PySem.W.nsIn K mainGlobals "look_row" = some (some (.ref f5)))
    (l5 : K.lookup f5 = some ⟨oc5, od5, .func (PySem.W.fnOf "look_row" "look_row" (defArgs st_look_row) (defBody st_look_row) (defScope st_look_row) .none kV5 dc5 pm5 an5 cd5 ct5), sl5⟩)
    (c5 : PySem.W.codeIn K cd5 "look_row" = true)
    (k5 : PySem.W.keepIn K (.ref f5) = true)
    (a6 : PySem.W.nsIn K mainGlobals "put_part" = some (some (.ref f6)))
    (l6 : K.lookup f6 = some ⟨oc6, od6, .func (PySem.W.fnOf "put_part" "put_part" (defArgs st_put_part) (defBody st_put_part) (defScope st_put_part) .none kV6 dc6 pm6 an6 cd6 ct6), sl6⟩)
    (c6 : PySem.W.codeIn K cd6 "put_part" = true)
    (k6 : PySem.W.keepIn K (.ref f6) = true)
    (a7 : PySem.W.nsIn K mainGlobals "drop_part" = some (some (.ref f7)))
    (l7 : K.lookup f7 = some ⟨oc7, od7, .func (PySem.W.fnOf "drop_part" "drop_part" (defArgs st_drop_part) (defBody st_drop_part) (defScope st_drop_part) .none kV7 dc7 pm7 an7 cd7 ct7), sl7⟩)
    (c7 : PySem.W.codeIn K cd7 "drop_part" = true)
    (k7 : PySem.W.keepIn K (.ref f7) = true)
    (a8 : PySem.W.nsIn K mainGlobals "set_part" = some (some (.ref f8)))
    (l8 : K.lookup f8 = some ⟨oc8, od8, .func (PySem.W.fnOf "set_part" "set_part" (defArgs st_set_part) (defBody st_set_part) (defScope st_set_part) .none kV8 dc8 pm8 an8 cd8 ct8), sl8⟩)
    (c8 : PySem.W.codeIn K cd8 "set_part" = true)
    (k8 : PySem.W.keepIn K (.ref f8) = true)
    (a9 : PySem.W.nsIn K mainGlobals "sweep_part" = some (some (.ref f9)))
    (l9 : K.lookup f9 = some ⟨oc9, od9, .func (PySem.W.fnOf "sweep_part" "sweep_part" (defArgs st_sweep_part) (defBody st_sweep_part) (defScope st_sweep_part) .none kV9 dc9 pm9 an9 cd9 ct9), sl9⟩)
    (c9 : PySem.W.codeIn K cd9 "sweep_part" = true)
    (k9 : PySem.W.keepIn K (.ref f9) = true)
    (a10 : PySem.W.nsIn K mainGlobals "shift_part" = some (some (.ref f10)))
    (l10 : K.lookup f10 = some ⟨oc10, od10, .func (PySem.W.fnOf "shift_part" "shift_part" (defArgs st_shift_part) (defBody st_shift_part) (defScope st_shift_part) .none kV10 dc10 pm10 an10 cd10 ct10), sl10⟩)
    (c10 : PySem.W.codeIn K cd10 "shift_part" = true)
    (k10 : PySem.W.keepIn K (.ref f10) = true)
    (a11 : PySem.W.nsIn K mainGlobals "own_part" = some (some (.ref f11)))
    (l11 : K.lookup f11 = some ⟨oc11, od11, .func (PySem.W.fnOf "own_part" "own_part" (defArgs st_own_part) (defBody st_own_part) (defScope st_own_part) .none kV11 dc11 pm11 an11 cd11 ct11), sl11⟩)
    (c11 : PySem.W.codeIn K cd11 "own_part" = true)
    (k11 : PySem.W.keepIn K (.ref f11) = true)
    (a12 : PySem.W.nsIn K mainGlobals "_law_begin" = some (some (.ref f12)))
    (l12 : K.lookup f12 = some ⟨oc12, od12, .func (PySem.W.fnOf "_law_begin" "_law_begin" (defArgs st_law_begin) (defBody st_law_begin) (defScope st_law_begin) .none kV12 dc12 pm12 an12 cd12 ct12), sl12⟩)
    (c12 : PySem.W.codeIn K cd12 "_law_begin" = true)
    (k12 : PySem.W.keepIn K (.ref f12) = true)
    (a13 : PySem.W.nsIn K mainGlobals "_law_take" = some (some (.ref f13)))
    (l13 : K.lookup f13 = some ⟨oc13, od13, .func (PySem.W.fnOf "_law_take" "_law_take" (defArgs st_law_take) (defBody st_law_take) (defScope st_law_take) .none kV13 dc13 pm13 an13 cd13 ct13), sl13⟩)
    (c13 : PySem.W.codeIn K cd13 "_law_take" = true)
    (k13 : PySem.W.keepIn K (.ref f13) = true)
    (a14 : PySem.W.nsIn K mainGlobals "_law_some" = some (some (.ref f14)))
    (l14 : K.lookup f14 = some ⟨oc14, od14, .func (PySem.W.fnOf "_law_some" "_law_some" (defArgs st_law_some) (defBody st_law_some) (defScope st_law_some) .none kV14 dc14 pm14 an14 cd14 ct14), sl14⟩)
    (c14 : PySem.W.codeIn K cd14 "_law_some" = true)
    (k14 : PySem.W.keepIn K (.ref f14) = true)
    (a15 : PySem.W.nsIn K mainGlobals "_law_names" = some (some (.ref f15)))
    (l15 : K.lookup f15 = some ⟨oc15, od15, .func (PySem.W.fnOf "_law_names" "_law_names" (defArgs st_law_names) (defBody st_law_names) (defScope st_law_names) .none kV15 dc15 pm15 an15 cd15 ct15), sl15⟩)
    (c15 : PySem.W.codeIn K cd15 "_law_names" = true)
    (k15 : PySem.W.keepIn K (.ref f15) = true)
    (a16 : PySem.W.nsIn K mainGlobals "_law_worth" = some (some (.ref f16)))
    (l16 : K.lookup f16 = some ⟨oc16, od16, .func (PySem.W.fnOf "_law_worth" "_law_worth" (defArgs st_law_worth) (defBody st_law_worth) (defScope st_law_worth) .none kV16 dc16 pm16 an16 cd16 ct16), sl16⟩)
    (c16 : PySem.W.codeIn K cd16 "_law_worth" = true)
    (k16 : PySem.W.keepIn K (.ref f16) = true)
    (a17 : PySem.W.nsIn K mainGlobals "_law_tables" = some (some (.ref f17)))
    (l17 : K.lookup f17 = some ⟨oc17, od17, .func (PySem.W.fnOf "_law_tables" "_law_tables" (defArgs st_law_tables) (defBody st_law_tables) (defScope st_law_tables) .none kV17 dc17 pm17 an17 cd17 ct17), sl17⟩)
    (c17 : PySem.W.codeIn K cd17 "_law_tables" = true)
    (k17 : PySem.W.keepIn K (.ref f17) = true)
    (a18 : PySem.W.nsIn K mainGlobals "_law_near" = some (some (.ref f18)))
    (l18 : K.lookup f18 = some ⟨oc18, od18, .func (PySem.W.fnOf "_law_near" "_law_near" (defArgs st_law_near) (defBody st_law_near) (defScope st_law_near) .none kV18 dc18 pm18 an18 cd18 ct18), sl18⟩)
    (c18 : PySem.W.codeIn K cd18 "_law_near" = true)
    (k18 : PySem.W.keepIn K (.ref f18) = true)
    (a19 : PySem.W.nsIn K mainGlobals "_law_content" = some (some (.ref f19)))
    (l19 : K.lookup f19 = some ⟨oc19, od19, .func (PySem.W.fnOf "_law_content" "_law_content" (defArgs st_law_content) (defBody st_law_content) (defScope st_law_content) .none kV19 dc19 pm19 an19 cd19 ct19), sl19⟩)
    (c19 : PySem.W.codeIn K cd19 "_law_content" = true)
    (k19 : PySem.W.keepIn K (.ref f19) = true)
    (a20 : PySem.W.nsIn K mainGlobals "_law_deed" = some (some (.ref f20)))
    (l20 : K.lookup f20 = some ⟨oc20, od20, .func (PySem.W.fnOf "_law_deed" "_law_deed" (defArgs st_law_deed) (defBody st_law_deed) (defScope st_law_deed) .none kV20 dc20 pm20 an20 cd20 ct20), sl20⟩)
    (c20 : PySem.W.codeIn K cd20 "_law_deed" = true)
    (k20 : PySem.W.keepIn K (.ref f20) = true)
    (a21 : PySem.W.nsIn K mainGlobals "_law_copied" = some (some (.ref f21)))
    (l21 : K.lookup f21 = some ⟨oc21, od21, .func (PySem.W.fnOf "_law_copied" "_law_copied" (defArgs st_law_copiedO) (defBody st_law_copiedO) (defScope st_law_copiedO) .none kV21 dc21 pm21 an21 cd21 ct21), sl21⟩)
    (c21 : PySem.W.codeIn K cd21 "_law_copied" = true)
    (k21 : PySem.W.keepIn K (.ref f21) = true)
    (a22 : PySem.W.nsIn K mainGlobals "_law_same" = some (some (.ref f22)))
    (l22 : K.lookup f22 = some ⟨oc22, od22, .func (PySem.W.fnOf "_law_same" "_law_same" (defArgs st_law_same) (defBody st_law_same) (defScope st_law_same) .none kV22 dc22 pm22 an22 cd22 ct22), sl22⟩)
    (c22 : PySem.W.codeIn K cd22 "_law_same" = true)
    (k22 : PySem.W.keepIn K (.ref f22) = true)
    (a23 : PySem.W.nsIn K mainGlobals "_law_due" = some (some (.ref f23)))
    (l23 : K.lookup f23 = some ⟨oc23, od23, .func (PySem.W.fnOf "_law_due" "_law_due" (defArgs st_law_due) (defBody st_law_due) (defScope st_law_due) .none kV23 dc23 pm23 an23 cd23 ct23), sl23⟩)
    (c23 : PySem.W.codeIn K cd23 "_law_due" = true)
    (k23 : PySem.W.keepIn K (.ref f23) = true)
    (a24 : PySem.W.nsIn K mainGlobals "_law_told" = some (some (.ref f24)))
    (l24 : K.lookup f24 = some ⟨oc24, od24, .func (PySem.W.fnOf "_law_told" "_law_told" (defArgs st_law_told) (defBody st_law_told) (defScope st_law_told) .none kV24 dc24 pm24 an24 cd24 ct24), sl24⟩)
    (c24 : PySem.W.codeIn K cd24 "_law_told" = true)
    (k24 : PySem.W.keepIn K (.ref f24) = true)
    (a25 : PySem.W.nsIn K mainGlobals "law" = some (some (.ref f25)))
    (l25 : K.lookup f25 = some ⟨oc25, od25, .func (PySem.W.fnOf "law" "law" (defArgs st_law) (defBody st_law) (defScope st_law) .none kV25 dc25 pm25 an25 cd25 ct25), sl25⟩)
    (c25 : PySem.W.codeIn K cd25 "law" = true)
    (k25 : PySem.W.keepIn K (.ref f25) = true)
    (gnO : PySem.W.specialIn K (.builtin "object.__class__") "__get__" = some (some (.builtin "getset_descriptor.__get__"))) (tkO : PySem.W.takesIn K (.builtin "object.__class__") = some true)
    {C_Taken : Addr} (aC_Taken : PySem.W.nsIn K mainGlobals "Taken" = some (some (.ref C_Taken)))
    {C_NoRow : Addr} (aC_NoRow : PySem.W.nsIn K mainGlobals "NoRow" = some (some (.ref C_NoRow)))
    {C_NoSuch : Addr} (aC_NoSuch : PySem.W.nsIn K mainGlobals "NoSuch" = some (some (.ref C_NoSuch)))
    {C_TableError : Addr} (aC_TableError : PySem.W.nsIn K mainGlobals "TableError" = some (some (.ref C_TableError)))
    {C_Barred : Addr} (aC_Barred : PySem.W.nsIn K mainGlobals "Barred" = some (some (.ref C_Barred)))
    (eC_Taken : PySem.W.subIn K (.ref C_Taken) (.type "BaseException") = some true) (tC_Taken : PySem.W.typeIn K (.ref C_Taken) = some (.type "type")) (hC_Taken : PySem.W.hasDictIn K C_Taken = true)
    (eC_NoSuch : PySem.W.subIn K (.ref C_NoSuch) (.type "BaseException") = some true) (tC_NoSuch : PySem.W.typeIn K (.ref C_NoSuch) = some (.type "type")) (hC_NoSuch : PySem.W.hasDictIn K C_NoSuch = true)
    (eC_NoRow : PySem.W.subIn K (.ref C_NoRow) (.type "BaseException") = some true) (tC_NoRow : PySem.W.typeIn K (.ref C_NoRow) = some (.type "type")) (hC_NoRow : PySem.W.hasDictIn K C_NoRow = true)
    (eC_TableError : PySem.W.subIn K (.ref C_TableError) (.type "BaseException") = some true) (tC_TableError : PySem.W.typeIn K (.ref C_TableError) = some (.type "type")) (hC_TableError : PySem.W.hasDictIn K C_TableError = true)
    (gb_TableError : PySem.W.specialIn K (.ref C_TableError) "__getattribute__" = some (some (.builtin "type.__getattribute__"))) (rb_TableError : PySem.W.readsIn K C_TableError (.type "type") = true) (fb_TableError : PySem.W.findCls K (.ref C_TableError) (.type "type") "__init__" = some (.val (.builtin "ValueError.__init__")))
    {nm_Taken q_Taken : Str} {N_Taken : Addr} {bs_Taken : List Value} {sn_Taken : List Str} {sub_Taken : List Value} {ab_Taken : Bool} {col_Taken : Option Bool} {dd_Taken : Option Addr} {m0_Taken m1_Taken m2_Taken m3_Taken m5_Taken : Option Value}
    (xL_Taken : K.lookup C_Taken = some (excClassObj nm_Taken q_Taken C_Taken N_Taken bs_Taken (.ref C_TableError :: tlVE) true sn_Taken sub_Taken ab_Taken col_Taken dd_Taken m0_Taken m1_Taken m2_Taken m3_Taken m5_Taken "ValueError.__new__"))
    (sa_Taken : PySem.W.findIn K (.ref C_Taken) "__setattr__" = some (some (.builtin "object.__setattr__"))) (ga_Taken : PySem.W.findIn K (.ref C_Taken) "__getattribute__" = some (some (.builtin "BaseException.__getattribute__"))) (gg_Taken : PySem.W.findIn K (.ref C_Taken) "__getattr__" = some none)
    (no_Taken_table : PySem.W.findIn K (.ref C_Taken) "table" = some none) (no_Taken_key : PySem.W.findIn K (.ref C_Taken) "key" = some none)
    (kC_Taken : PySem.W.keepIn K (.ref C_Taken) = true) (cC_Taken : PySem.W.isClsIn K C_Taken = true) (ca_Taken : PySem.W.findIn K (.ref C_Taken) "__class__" = some (some (.builtin "object.__class__"))) (mo_Taken : PySem.W.mroIn K C_Taken (.type "object") = some true)
    {f_Taken : Addr} {od_Taken an_Taken : Option Addr} {sl_Taken : Array (Option Value)} {oc_Taken kV_Taken dc_Taken pm_Taken cd_Taken ct_Taken : Value}
    (iC_Taken : PySem.W.findIn K (.ref C_Taken) "__init__" = some (some (.ref f_Taken))) (tI_Taken : PySem.W.typeIn K (.ref f_Taken) = some (.type "function")) (lI_Taken : K.lookup f_Taken = some ⟨oc_Taken, od_Taken, .func (PySem.W.fnOf "__init__" "Taken.__init__" (defArgs (defIn (topS 2) 0)) (defBody (defIn (topS 2) 0)) (defScope (defIn (topS 2) 0)) .none kV_Taken dc_Taken pm_Taken an_Taken cd_Taken ct_Taken), sl_Taken⟩) (cI_Taken : PySem.W.codeIn K cd_Taken "Taken.__init__" = true)
    {nm_NoRow q_NoRow : Str} {N_NoRow : Addr} {bs_NoRow : List Value} {sn_NoRow : List Str} {sub_NoRow : List Value} {ab_NoRow : Bool} {col_NoRow : Option Bool} {dd_NoRow : Option Addr} {m0_NoRow m1_NoRow m2_NoRow m3_NoRow m5_NoRow : Option Value}
    (xL_NoRow : K.lookup C_NoRow = some (excClassObj nm_NoRow q_NoRow C_NoRow N_NoRow bs_NoRow (.ref C_TableError :: tlVE) true sn_NoRow sub_NoRow ab_NoRow col_NoRow dd_NoRow m0_NoRow m1_NoRow m2_NoRow m3_NoRow m5_NoRow "ValueError.__new__"))
    (sa_NoRow : PySem.W.findIn K (.ref C_NoRow) "__setattr__" = some (some (.builtin "object.__setattr__"))) (ga_NoRow : PySem.W.findIn K (.ref C_NoRow) "__getattribute__" = some (some (.builtin "BaseException.__getattribute__"))) (gg_NoRow : PySem.W.findIn K (.ref C_NoRow) "__getattr__" = some none)
    (no_NoRow_table : PySem.W.findIn K (.ref C_NoRow) "table" = some none) (no_NoRow_key : PySem.W.findIn K (.ref C_NoRow) "key" = some none)
    (kC_NoRow : PySem.W.keepIn K (.ref C_NoRow) = true) (cC_NoRow : PySem.W.isClsIn K C_NoRow = true) (ca_NoRow : PySem.W.findIn K (.ref C_NoRow) "__class__" = some (some (.builtin "object.__class__"))) (mo_NoRow : PySem.W.mroIn K C_NoRow (.type "object") = some true)
    {f_NoRow : Addr} {od_NoRow an_NoRow : Option Addr} {sl_NoRow : Array (Option Value)} {oc_NoRow kV_NoRow dc_NoRow pm_NoRow cd_NoRow ct_NoRow : Value}
    (iC_NoRow : PySem.W.findIn K (.ref C_NoRow) "__init__" = some (some (.ref f_NoRow))) (tI_NoRow : PySem.W.typeIn K (.ref f_NoRow) = some (.type "function")) (lI_NoRow : K.lookup f_NoRow = some ⟨oc_NoRow, od_NoRow, .func (PySem.W.fnOf "__init__" "NoRow.__init__" (defArgs (defIn (topS 3) 0)) (defBody (defIn (topS 3) 0)) (defScope (defIn (topS 3) 0)) .none kV_NoRow dc_NoRow pm_NoRow an_NoRow cd_NoRow ct_NoRow), sl_NoRow⟩) (cI_NoRow : PySem.W.codeIn K cd_NoRow "NoRow.__init__" = true)
    (z_LookupError : PySem.W.nsIn K mainGlobals "LookupError" = some none)
    {nm_NoSuch q_NoSuch : Str} {N_NoSuch : Addr} {bs_NoSuch : List Value} {sn_NoSuch : List Str} {sub_NoSuch : List Value} {ab_NoSuch : Bool} {col_NoSuch : Option Bool} {dd_NoSuch : Option Addr} {m0_NoSuch m1_NoSuch m2_NoSuch m3_NoSuch m5_NoSuch : Option Value}
    (xL_NoSuch : K.lookup C_NoSuch = some (excClassObj nm_NoSuch q_NoSuch C_NoSuch N_NoSuch bs_NoSuch tlLE true sn_NoSuch sub_NoSuch ab_NoSuch col_NoSuch dd_NoSuch m0_NoSuch m1_NoSuch m2_NoSuch m3_NoSuch m5_NoSuch "LookupError.__new__"))
    (sa_NoSuch : PySem.W.findIn K (.ref C_NoSuch) "__setattr__" = some (some (.builtin "object.__setattr__"))) (ga_NoSuch : PySem.W.findIn K (.ref C_NoSuch) "__getattribute__" = some (some (.builtin "BaseException.__getattribute__"))) (gg_NoSuch : PySem.W.findIn K (.ref C_NoSuch) "__getattr__" = some none)
    (no_NoSuch_what : PySem.W.findIn K (.ref C_NoSuch) "what" = some none) (no_NoSuch_name : PySem.W.findIn K (.ref C_NoSuch) "name" = some none)
    (kC_NoSuch : PySem.W.keepIn K (.ref C_NoSuch) = true) (cC_NoSuch : PySem.W.isClsIn K C_NoSuch = true) (ca_NoSuch : PySem.W.findIn K (.ref C_NoSuch) "__class__" = some (some (.builtin "object.__class__"))) (mo_NoSuch : PySem.W.mroIn K C_NoSuch (.type "object") = some true)
    {f_NoSuch : Addr} {od_NoSuch an_NoSuch : Option Addr} {sl_NoSuch : Array (Option Value)} {oc_NoSuch kV_NoSuch dc_NoSuch pm_NoSuch cd_NoSuch ct_NoSuch : Value}
    (iC_NoSuch : PySem.W.findIn K (.ref C_NoSuch) "__init__" = some (some (.ref f_NoSuch))) (tI_NoSuch : PySem.W.typeIn K (.ref f_NoSuch) = some (.type "function")) (lI_NoSuch : K.lookup f_NoSuch = some ⟨oc_NoSuch, od_NoSuch, .func (PySem.W.fnOf "__init__" "NoSuch.__init__" (defArgs (defIn (topS 5) 0)) (defBody (defIn (topS 5) 0)) (defScope (defIn (topS 5) 0)) .none kV_NoSuch dc_NoSuch pm_NoSuch an_NoSuch cd_NoSuch ct_NoSuch), sl_NoSuch⟩) (cI_NoSuch : PySem.W.codeIn K cd_NoSuch "NoSuch.__init__" = true)
    (s_TableError_Taken : PySem.W.subIn K (.ref C_Taken) (.ref C_TableError) = some true)
    (s_TableError_NoRow : PySem.W.subIn K (.ref C_NoRow) (.ref C_TableError) = some true)
    (s_TableError_NoSuch : PySem.W.subIn K (.ref C_NoSuch) (.ref C_TableError) = some false)
    (kt_0_Taken : PySem.W.kitOne K (.ref C_Taken) (.type "ValueError") = some true)
    (kt_0_NoRow : PySem.W.kitOne K (.ref C_NoRow) (.type "ValueError") = some true)
    (kt_0_NoSuch : PySem.W.kitOne K (.ref C_NoSuch) (.type "ValueError") = some false)
    (kt_1_Taken : PySem.W.kitAny K (.ref C_Taken) [.ref C_Barred, .ref C_NoSuch] = some false)
    (kt_1_NoRow : PySem.W.kitAny K (.ref C_NoRow) [.ref C_Barred, .ref C_NoSuch] = some false)
    (kt_1_NoSuch : PySem.W.kitAny K (.ref C_NoSuch) [.ref C_Barred, .ref C_NoSuch] = some true)
    (kt_2_Taken : PySem.W.kitOne K (.ref C_Taken) (.ref C_Taken) = some true)
    (kt_2_NoRow : PySem.W.kitOne K (.ref C_NoRow) (.ref C_Taken) = some false)
    (kt_2_NoSuch : PySem.W.kitOne K (.ref C_NoSuch) (.ref C_Taken) = some false)
    (kt_3_Taken : PySem.W.kitOne K (.ref C_Taken) (.ref C_NoRow) = some false)
    (kt_3_NoRow : PySem.W.kitOne K (.ref C_NoRow) (.ref C_NoRow) = some true)
    (kt_3_NoSuch : PySem.W.kitOne K (.ref C_NoSuch) (.ref C_NoRow) = some false)
    (z_ValueError : PySem.W.nsIn K mainGlobals "ValueError" = some none)
    (z_all : PySem.W.nsIn K mainGlobals "all" = some none)
    (z_bool : PySem.W.nsIn K mainGlobals "bool" = some none)
    (z_divmod : PySem.W.nsIn K mainGlobals "divmod" = some none)
    (z_enumerate : PySem.W.nsIn K mainGlobals "enumerate" = some none)
    (z_int : PySem.W.nsIn K mainGlobals "int" = some none)
    (z_isinstance : PySem.W.nsIn K mainGlobals "isinstance" = some none)
    (z_len : PySem.W.nsIn K mainGlobals "len" = some none)
    (z_list : PySem.W.nsIn K mainGlobals "list" = some none)
    (z_min : PySem.W.nsIn K mainGlobals "min" = some none)
    (z_range : PySem.W.nsIn K mainGlobals "range" = some none)
    (z_repr : PySem.W.nsIn K mainGlobals "repr" = some none)
    (z_str : PySem.W.nsIn K mainGlobals "str" = some none)
    (z_tuple : PySem.W.nsIn K mainGlobals "tuple" = some none)
    (z_zip : PySem.W.nsIn K mainGlobals "zip" = some none)
    {p_COLUMN_PARTS : Addr} {n_COLUMN_PARTS : Nat} {h_COLUMN_PARTS_0 : Int} {s_COLUMN_PARTS_0 : Tok} {h_COLUMN_PARTS_1 : Int} {s_COLUMN_PARTS_1 : Tok} (y_COLUMN_PARTS : PySem.W.nsIn K mainGlobals "COLUMN_PARTS" = some (some (.ref p_COLUMN_PARTS)))
    (u_COLUMN_PARTS : K.lookup p_COLUMN_PARTS = some ⟨.type "dict", none, .dict #[⟨h_COLUMN_PARTS_0, .str "sweep" s_COLUMN_PARTS_0, .ref f9⟩, ⟨h_COLUMN_PARTS_1, .str "shift" s_COLUMN_PARTS_1, .ref f10⟩] n_COLUMN_PARTS, #[]⟩)
    (e_COLUMN_PARTS_0 : h_COLUMN_PARTS_0 = PyData.keyHash w.params "sweep") (e_COLUMN_PARTS_1 : h_COLUMN_PARTS_1 = PyData.keyHash w.params "shift")
    (x_COLUMN_PARTS : (p_COLUMN_PARTS == sysModules) = false)
    {p_ROW_PARTS : Addr} {n_ROW_PARTS : Nat} {h_ROW_PARTS_0 : Int} {s_ROW_PARTS_0 : Tok} {h_ROW_PARTS_1 : Int} {s_ROW_PARTS_1 : Tok} (y_ROW_PARTS : PySem.W.nsIn K mainGlobals "ROW_PARTS" = some (some (.ref p_ROW_PARTS)))
    (u_ROW_PARTS : K.lookup p_ROW_PARTS = some ⟨.type "dict", none, .dict #[⟨h_ROW_PARTS_0, .str "put" s_ROW_PARTS_0, .ref f6⟩, ⟨h_ROW_PARTS_1, .str "drop" s_ROW_PARTS_1, .ref f7⟩] n_ROW_PARTS, #[]⟩)
    (e_ROW_PARTS_0 : h_ROW_PARTS_0 = PyData.keyHash w.params "put") (e_ROW_PARTS_1 : h_ROW_PARTS_1 = PyData.keyHash w.params "drop")
    (x_ROW_PARTS : (p_ROW_PARTS == sysModules) = false)
    : ∃ fd : FuncData, (∀ (s : Shared) (u : Value), BindsTo s fd ⟨[u], []⟩ [("script", u)]) ∧ ∀ base : Heap, K.In base → base.Ns mainGlobals mg → FnG P w K mg base (L2.CX P w) 13 fa fd ["script"] (spM K 1 F_law) := by
  have e := hfa.symm.trans (PySem.W.mg_of X G a25)
  cases e
  have OG_Taken : OexG K C_Taken "ValueError.__init__" := oexG_VE1 ⟨_, _, _, _, _, _, _, _, _, _, _, _, _, _, xL_Taken⟩ sa_Taken eC_Taken tC_Taken kC_Taken
  have XC_Taken : Xcl K C_Taken := ⟨ga_Taken, gg_Taken, eC_Taken, hC_Taken, cC_Taken, ca_Taken, mo_Taken, gnO, tkO⟩
  have OG_NoRow : OexG K C_NoRow "ValueError.__init__" := oexG_VE1 ⟨_, _, _, _, _, _, _, _, _, _, _, _, _, _, xL_NoRow⟩ sa_NoRow eC_NoRow tC_NoRow kC_NoRow
  have XC_NoRow : Xcl K C_NoRow := ⟨ga_NoRow, gg_NoRow, eC_NoRow, hC_NoRow, cC_NoRow, ca_NoRow, mo_NoRow, gnO, tkO⟩
  have OG_NoSuch : OexG K C_NoSuch "LookupError.__init__" := oexG_LE ⟨_, _, _, _, _, _, _, _, _, _, _, _, _, _, xL_NoSuch⟩ sa_NoSuch eC_NoSuch tC_NoSuch kC_NoSuch
  have XC_NoSuch : Xcl K C_NoSuch := ⟨ga_NoSuch, gg_NoSuch, eC_NoSuch, hC_NoSuch, cC_NoSuch, ca_NoSuch, mo_NoSuch, gnO, tkO⟩
  have M : Mo K w mg := ⟨PySem.W.mg_none_of X G z_ValueError, PySem.W.mg_none_of X G z_all, PySem.W.mg_none_of X G z_bool, PySem.W.mg_none_of X G z_divmod, PySem.W.mg_none_of X G z_enumerate, PySem.W.mg_none_of X G z_int, PySem.W.mg_none_of X G z_isinstance, PySem.W.mg_none_of X G z_len, PySem.W.mg_none_of X G z_list, PySem.W.mg_none_of X G z_min, PySem.W.mg_none_of X G z_range, PySem.W.mg_none_of X G z_repr, PySem.W.mg_none_of X G z_str, PySem.W.mg_none_of X G z_tuple, PySem.W.mg_none_of X G z_zip, ⟨_, PySem.W.mg_of X G y_COLUMN_PARTS, ftab_mk u_COLUMN_PARTS ⟨⟨_, _, rfl, e_COLUMN_PARTS_0⟩, ⟨⟨_, _, rfl, e_COLUMN_PARTS_1⟩, trivial⟩⟩ x_COLUMN_PARTS (.cons ⟨⟨_, rfl⟩, f9, rfl, PySem.W.mg_of X G a9⟩ (.cons ⟨⟨_, rfl⟩, f10, rfl, PySem.W.mg_of X G a10⟩ .nil))⟩, ⟨_, PySem.W.mg_of X G y_ROW_PARTS, ftab_mk u_ROW_PARTS ⟨⟨_, _, rfl, e_ROW_PARTS_0⟩, ⟨⟨_, _, rfl, e_ROW_PARTS_1⟩, trivial⟩⟩ x_ROW_PARTS (.cons ⟨⟨_, rfl⟩, f6, rfl, PySem.W.mg_of X G a6⟩ (.cons ⟨⟨_, rfl⟩, f7, rfl, PySem.W.mg_of X G a7⟩ .nil))⟩, ⟨C_TableError, PySem.W.mg_of X G aC_TableError, (fun n hn => by
    simp only [List.mem_cons, List.not_mem_nil, or_false] at hn
    rcases hn with rfl | rfl
    · exact fun C h => at_one (P := fun C => PySem.W.exmOne K (.ref C) (.ref C_TableError) = some true) aC_Taken (PySem.W.exm_ref eC_TableError hC_TableError tC_TableError s_TableError_Taken) C h
    · exact fun C h => at_one (P := fun C => PySem.W.exmOne K (.ref C) (.ref C_TableError) = some true) aC_NoRow (PySem.W.exm_ref eC_TableError hC_TableError tC_TableError s_TableError_NoRow) C h), (fun n hn => by
    simp only [List.mem_cons, List.not_mem_nil, or_false] at hn
    rcases hn with rfl
    · exact fun C h => at_one (P := fun C => PySem.W.exmOne K (.ref C) (.ref C_TableError) = some false) aC_NoSuch (PySem.W.exm_ref eC_TableError hC_TableError tC_TableError s_TableError_NoSuch) C h)⟩, (fun n hn => by
    simp only [List.mem_cons, List.not_mem_nil, or_false] at hn
    rcases hn with rfl | rfl | rfl
    · exact fun C h => at_one (P := fun C => Xcl K C ∧ PySem.W.kitOne K (.ref C) (.type "ValueError") = some (decide (("Taken" : Str) ∈ (["Taken", "NoRow"] : List Str)))) aC_Taken ⟨XC_Taken, kt_0_Taken.trans (by decide +kernel)⟩ C h
    · exact fun C h => at_one (P := fun C => Xcl K C ∧ PySem.W.kitOne K (.ref C) (.type "ValueError") = some (decide (("NoRow" : Str) ∈ (["Taken", "NoRow"] : List Str)))) aC_NoRow ⟨XC_NoRow, kt_0_NoRow.trans (by decide +kernel)⟩ C h
    · exact fun C h => at_one (P := fun C => Xcl K C ∧ PySem.W.kitOne K (.ref C) (.type "ValueError") = some (decide (("NoSuch" : Str) ∈ (["Taken", "NoRow"] : List Str)))) aC_NoSuch ⟨XC_NoSuch, kt_0_NoSuch.trans (by decide +kernel)⟩ C h), ⟨C_Barred, C_NoSuch, PySem.W.mg_of X G aC_Barred, PySem.W.mg_of X G aC_NoSuch, (fun n hn => by
    simp only [List.mem_cons, List.not_mem_nil, or_false] at hn
    rcases hn with rfl | rfl | rfl
    · exact fun C h => at_one (P := fun C => Xcl K C ∧ PySem.W.kitAny K (.ref C) [.ref C_Barred, .ref C_NoSuch] = some (decide (("Taken" : Str) ∈ (["NoSuch"] : List Str)))) aC_Taken ⟨XC_Taken, kt_1_Taken.trans (by decide +kernel)⟩ C h
    · exact fun C h => at_one (P := fun C => Xcl K C ∧ PySem.W.kitAny K (.ref C) [.ref C_Barred, .ref C_NoSuch] = some (decide (("NoRow" : Str) ∈ (["NoSuch"] : List Str)))) aC_NoRow ⟨XC_NoRow, kt_1_NoRow.trans (by decide +kernel)⟩ C h
    · exact fun C h => at_one (P := fun C => Xcl K C ∧ PySem.W.kitAny K (.ref C) [.ref C_Barred, .ref C_NoSuch] = some (decide (("NoSuch" : Str) ∈ (["NoSuch"] : List Str)))) aC_NoSuch ⟨XC_NoSuch, kt_1_NoSuch.trans (by decide +kernel)⟩ C h)⟩, ⟨C_Taken, PySem.W.mg_of X G aC_Taken, (fun n hn => by
    simp only [List.mem_cons, List.not_mem_nil, or_false] at hn
    rcases hn with rfl | rfl | rfl
    · exact fun C h => at_one (P := fun C => Xcl K C ∧ PySem.W.kitOne K (.ref C) (.ref C_Taken) = some (decide (("Taken" : Str) ∈ (["Taken"] : List Str)))) aC_Taken ⟨XC_Taken, kt_2_Taken.trans (by decide +kernel)⟩ C h
    · exact fun C h => at_one (P := fun C => Xcl K C ∧ PySem.W.kitOne K (.ref C) (.ref C_Taken) = some (decide (("NoRow" : Str) ∈ (["Taken"] : List Str)))) aC_NoRow ⟨XC_NoRow, kt_2_NoRow.trans (by decide +kernel)⟩ C h
    · exact fun C h => at_one (P := fun C => Xcl K C ∧ PySem.W.kitOne K (.ref C) (.ref C_Taken) = some (decide (("NoSuch" : Str) ∈ (["Taken"] : List Str)))) aC_NoSuch ⟨XC_NoSuch, kt_2_NoSuch.trans (by decide +kernel)⟩ C h)⟩, ⟨C_NoRow, PySem.W.mg_of X G aC_NoRow, (fun n hn => by
    simp only [List.mem_cons, List.not_mem_nil, or_false] at hn
    rcases hn with rfl | rfl | rfl
    · exact fun C h => at_one (P := fun C => Xcl K C ∧ PySem.W.kitOne K (.ref C) (.ref C_NoRow) = some (decide (("Taken" : Str) ∈ (["NoRow"] : List Str)))) aC_Taken ⟨XC_Taken, kt_3_Taken.trans (by decide +kernel)⟩ C h
    · exact fun C h => at_one (P := fun C => Xcl K C ∧ PySem.W.kitOne K (.ref C) (.ref C_NoRow) = some (decide (("NoRow" : Str) ∈ (["NoRow"] : List Str)))) aC_NoRow ⟨XC_NoRow, kt_3_NoRow.trans (by decide +kernel)⟩ C h
    · exact fun C h => at_one (P := fun C => Xcl K C ∧ PySem.W.kitOne K (.ref C) (.ref C_NoRow) = some (decide (("NoSuch" : Str) ∈ (["NoRow"] : List Str)))) aC_NoSuch ⟨XC_NoSuch, kt_3_NoSuch.trans (by decide +kernel)⟩ C h)⟩, (fun n hn => by
    simp only [List.mem_cons, List.not_mem_nil, or_false] at hn
    rcases hn with rfl | rfl
    · exact fun C h => at_one (P := fun C => Xcl K C ∧ PySem.W.findIn K (.ref C) "key" = some none) aC_Taken ⟨XC_Taken, no_Taken_key⟩ C h
    · exact fun C h => at_one (P := fun C => Xcl K C ∧ PySem.W.findIn K (.ref C) "key" = some none) aC_NoRow ⟨XC_NoRow, no_NoRow_key⟩ C h), (fun n hn => by
    simp only [List.mem_cons, List.not_mem_nil, or_false] at hn
    rcases hn with rfl | rfl
    · exact fun C h => at_one (P := fun C => Xcl K C ∧ PySem.W.findIn K (.ref C) "table" = some none) aC_Taken ⟨XC_Taken, no_Taken_table⟩ C h
    · exact fun C h => at_one (P := fun C => Xcl K C ∧ PySem.W.findIn K (.ref C) "table" = some none) aC_NoRow ⟨XC_NoRow, no_NoRow_table⟩ C h)⟩
  have D0 : Dfn K "table_place" st_table_place ["tables", "table"] [] _ _ := dfn_mk l0 c0 k0 fun _ _ _ _ _ _ us hl => match us, hl with | [_, _], _ => rfl
  have D1 : Dfn K "columns_of" st_columns_of ["tables", "table"] [] _ _ := dfn_mk l1 c1 k1 fun _ _ _ _ _ _ us hl => match us, hl with | [_, _], _ => rfl
  have D2 : Dfn K "column_place" st_column_place ["tables", "table", "column"] [] _ _ := dfn_mk l2 c2 k2 fun _ _ _ _ _ _ us hl => match us, hl with | [_, _, _], _ => rfl
  have D3 : Dfn K "rows_of" st_rows_of ["tables", "content", "table"] [] _ _ := dfn_mk l3 c3 k3 fun _ _ _ _ _ _ us hl => match us, hl with | [_, _, _], _ => rfl
  have D4 : Dfn K "row_of" st_row_of ["tables", "content", "table", "key"] [] _ _ := dfn_mk l4 c4 k4 fun _ _ _ _ _ _ us hl => match us, hl with | [_, _, _, _], _ => rfl
  have D5 : Dfn K "look_row" st_look_row ["tables", "content", "table", "key"] [] _ _ := dfn_mk l5 c5 k5 fun _ _ _ _ _ _ us hl => match us, hl with | [_, _, _, _], _ => rfl
  have D6 : Dfn K "put_part" st_put_part ["tables", "content", "table", "row"] [] _ _ := dfn_mk l6 c6 k6 fun _ _ _ _ _ _ us hl => match us, hl with | [_, _, _, _], _ => rfl
  have D7 : Dfn K "drop_part" st_drop_part ["tables", "content", "table", "key"] [] _ _ := dfn_mk l7 c7 k7 fun _ _ _ _ _ _ us hl => match us, hl with | [_, _, _, _], _ => rfl
  have D8 : Dfn K "set_part" st_set_part ["tables", "content", "table", "key", "column", "worth"] [] _ _ := dfn_mk l8 c8 k8 fun _ _ _ _ _ _ us hl => match us, hl with | [_, _, _, _, _, _], _ => rfl
  have D9 : Dfn K "sweep_part" st_sweep_part ["tables", "content", "table", "column", "worth"] [] _ _ := dfn_mk l9 c9 k9 fun _ _ _ _ _ _ us hl => match us, hl with | [_, _, _, _, _], _ => rfl
  have D10 : Dfn K "shift_part" st_shift_part ["tables", "content", "table", "column", "by"] [] _ _ := dfn_mk l10 c10 k10 fun _ _ _ _ _ _ us hl => match us, hl with | [_, _, _, _, _], _ => rfl
  have D11 : Dfn K "own_part" st_own_part ["tables", "content", "deed"] [] _ _ := dfn_mk l11 c11 k11 fun _ _ _ _ _ _ us hl => match us, hl with | [_, _, _], _ => rfl
  have D12 : Dfn K "_law_begin" st_law_begin ["script"] [] _ _ := dfn_mk l12 c12 k12 fun _ _ _ _ _ _ us hl => match us, hl with | [_], _ => rfl
  have D13 : Dfn K "_law_take" st_law_take ["state", "many"] [] _ _ := dfn_mk l13 c13 k13 fun _ _ _ _ _ _ us hl => match us, hl with | [_, _], _ => rfl
  have D14 : Dfn K "_law_some" st_law_some ["state", "things"] [] _ _ := dfn_mk l14 c14 k14 fun _ _ _ _ _ _ us hl => match us, hl with | [_, _], _ => rfl
  have D15 : Dfn K "_law_names" st_law_names ["state", "many"] [] _ _ := dfn_mk l15 c15 k15 fun _ _ _ _ _ _ us hl => match us, hl with | [_, _], _ => rfl
  have D16 : Dfn K "_law_worth" st_law_worth ["state"] [] _ _ := dfn_mk l16 c16 k16 fun _ _ _ _ _ _ us hl => match us, hl with | [_], _ => rfl
  have D17 : Dfn K "_law_tables" st_law_tables ["state", "many", "wide"] [] _ _ := dfn_mk l17 c17 k17 fun _ _ _ _ _ _ us hl => match us, hl with | [_, _, _], _ => rfl
  have D18 : Dfn K "_law_near" st_law_near ["state", "low", "many"] [] _ _ := dfn_mk l18 c18 k18 fun _ _ _ _ _ _ us hl => match us, hl with | [_, _, _], _ => rfl
  have D19 : Dfn K "_law_content" st_law_content ["state", "tables", "many"] [] _ _ := dfn_mk l19 c19 k19 fun _ _ _ _ _ _ us hl => match us, hl with | [_, _, _], _ => rfl
  have D20 : Dfn K "_law_deed" st_law_deed ["state", "tables", "content"] [] _ _ := dfn_mk l20 c20 k20 fun _ _ _ _ _ _ us hl => match us, hl with | [_, _, _], _ => rfl
  have D21 : Dfn K "_law_copied" st_law_copiedO ["content"] [] _ _ := dfn_mk l21 c21 k21 fun _ _ _ _ _ _ us hl => match us, hl with | [_], _ => rfl
  have D22 : Dfn K "_law_same" st_law_same ["found", "due"] [] _ _ := dfn_mk l22 c22 k22 fun _ _ _ _ _ _ us hl => match us, hl with | [_, _], _ => rfl
  have D23 : Dfn K "_law_due" st_law_due ["tables", "content", "deed"] [] _ _ := dfn_mk l23 c23 k23 fun _ _ _ _ _ _ us hl => match us, hl with | [_, _, _], _ => rfl
  have D24 : Dfn K "_law_told" st_law_told ["tables", "content", "deed"] [] _ _ := dfn_mk l24 c24 k24 fun _ _ _ _ _ _ us hl => match us, hl with | [_, _, _], _ => rfl
  have D25 : Dfn K "law" st_law ["script"] [] _ _ := dfn_mk l25 c25 k25 fun _ _ _ _ _ _ us hl => match us, hl with | [_], _ => rfl
  refine ⟨PySem.W.fnOf "law" "law" (defArgs st_law) (defBody st_law) (defScope st_law) .none kV25 dc25 pm25 an25 cd25 ct25, fun s u => .of_eq rfl, fun base _ _ => ?_⟩
  have FI_Taken : FnOk P w K mg base (L2.CX P w) 1 f_Taken _ ["self", "table", "key"] (spIn K "ValueError.__init__" ["table", "key"]) := L2.fn_of (k := 0) lI_Taken cI_Taken scI_Taken (fun vs H Q E h => by obtain ⟨a, C, ys, rfl, hl, _⟩ := h; simp [hl]) fun A outer s H vs Q E hr hsp => ⟨_, (pss_cons (ps_expr (pe_ini (base_own ⟨gb_TableError, _, rb_TableError, fb_TableError⟩ rfl (PySem.W.mg_of X G aC_TableError)) (pa_cons (pe_var (i := 0) rfl (Or.inl rfl) (by decide) (by decide)) (pa_cons pe_str pa_nil)))) (pss_cons (ps_ostG (pe_var (i := 0) rfl (Or.inl rfl) (by decide) (by decide)) (pe_var (i := 1) rfl (Or.inl rfl) (by decide) (by decide))) (pss_one (ps_ostG (pe_var (i := 0) rfl (Or.inl rfl) (by decide) (by decide)) (pe_var (i := 2) rfl (Or.inl rfl) (by decide) (by decide)))))), in2_go hsp⟩
  have r_Taken : Rse P w K mg base (L2.CX P w) "Taken" ["table", "key"] := ⟨⟨C_Taken, f_Taken, _, _, _, PySem.W.mg_of X G aC_Taken, aC_Taken, OG_Taken, fun f hf => by
    simp only [List.mem_cons, List.not_mem_nil, or_false] at hf
    rcases hf with rfl | rfl
    · exact no_Taken_table
    · exact no_Taken_key, iC_Taken, tI_Taken, FI_Taken, .all fun us hl => match us, hl with | [_, _, _], _ => rfl⟩⟩
  have FI_NoRow : FnOk P w K mg base (L2.CX P w) 1 f_NoRow _ ["self", "table", "key"] (spIn K "ValueError.__init__" ["table", "key"]) := L2.fn_of (k := 0) lI_NoRow cI_NoRow scI_NoRow (fun vs H Q E h => by obtain ⟨a, C, ys, rfl, hl, _⟩ := h; simp [hl]) fun A outer s H vs Q E hr hsp => ⟨_, (pss_cons (ps_expr (pe_ini (base_own ⟨gb_TableError, _, rb_TableError, fb_TableError⟩ rfl (PySem.W.mg_of X G aC_TableError)) (pa_cons (pe_var (i := 0) rfl (Or.inl rfl) (by decide) (by decide)) (pa_cons pe_str pa_nil)))) (pss_cons (ps_ostG (pe_var (i := 0) rfl (Or.inl rfl) (by decide) (by decide)) (pe_var (i := 1) rfl (Or.inl rfl) (by decide) (by decide))) (pss_one (ps_ostG (pe_var (i := 0) rfl (Or.inl rfl) (by decide) (by decide)) (pe_var (i := 2) rfl (Or.inl rfl) (by decide) (by decide)))))), in2_go hsp⟩
  have r_NoRow : Rse P w K mg base (L2.CX P w) "NoRow" ["table", "key"] := ⟨⟨C_NoRow, f_NoRow, _, _, _, PySem.W.mg_of X G aC_NoRow, aC_NoRow, OG_NoRow, fun f hf => by
    simp only [List.mem_cons, List.not_mem_nil, or_false] at hf
    rcases hf with rfl | rfl
    · exact no_NoRow_table
    · exact no_NoRow_key, iC_NoRow, tI_NoRow, FI_NoRow, .all fun us hl => match us, hl with | [_, _, _], _ => rfl⟩⟩
  have FI_NoSuch : FnOk P w K mg base (L2.CX P w) 1 f_NoSuch _ ["self", "what", "name"] (spIn K "LookupError.__init__" ["what", "name"]) := L2.fn_of (k := 0) lI_NoSuch cI_NoSuch scI_NoSuch (fun vs H Q E h => by obtain ⟨a, C, ys, rfl, hl, _⟩ := h; simp [hl]) fun A outer s H vs Q E hr hsp => ⟨_, (pss_cons (ps_expr (pe_ini (base_LE (PySem.W.mg_none_of X G z_LookupError)) (pa_cons (pe_var (i := 0) rfl (Or.inl rfl) (by decide) (by decide)) (pa_cons pe_str pa_nil)))) (pss_cons (ps_ostG (pe_var (i := 0) rfl (Or.inl rfl) (by decide) (by decide)) (pe_var (i := 1) rfl (Or.inl rfl) (by decide) (by decide))) (pss_one (ps_ostG (pe_var (i := 0) rfl (Or.inl rfl) (by decide) (by decide)) (pe_var (i := 2) rfl (Or.inl rfl) (by decide) (by decide)))))), in2_go hsp⟩
  have r_NoSuch : Rse P w K mg base (L2.CX P w) "NoSuch" ["what", "name"] := ⟨⟨C_NoSuch, f_NoSuch, _, _, _, PySem.W.mg_of X G aC_NoSuch, aC_NoSuch, OG_NoSuch, fun f hf => by
    simp only [List.mem_cons, List.not_mem_nil, or_false] at hf
    rcases hf with rfl | rfl
    · exact no_NoSuch_what
    · exact no_NoSuch_name, iC_NoSuch, tI_NoSuch, FI_NoSuch, .all fun us hl => match us, hl with | [_, _, _], _ => rfl⟩⟩
  have g_table_place := ok_table_place (P := P) (w := w) (base := base) (k := 2) M D0  r_NoSuch (by decide)
  have c_table_place := g_table_place.cal D0 (PySem.W.mg_of X G a0)
  have g_columns_of := ok_columns_of (P := P) (w := w) (base := base) (k := 3) M D1 (c_table_place.mono (by decide))
  have c_columns_of := g_columns_of.cal D1 (PySem.W.mg_of X G a1)
  have g_column_place := ok_column_place (P := P) (w := w) (base := base) (k := 4) M D2 (c_columns_of.mono (by decide)) r_NoSuch (by decide)
  have c_column_place := g_column_place.cal D2 (PySem.W.mg_of X G a2)
  have g_rows_of := ok_rows_of (P := P) (w := w) (base := base) (k := 3) M D3 (c_table_place.mono (by decide))
  have c_rows_of := g_rows_of.cal D3 (PySem.W.mg_of X G a3)
  have g_row_of := ok_row_of (P := P) (w := w) (base := base) (k := 4) M D4 (c_rows_of.mono (by decide))
  have c_row_of := g_row_of.cal D4 (PySem.W.mg_of X G a4)
  have g_look_row := ok_look_row (P := P) (w := w) (base := base) (k := 5) M D5 (c_row_of.mono (by decide)) r_NoRow (by decide)
  have c_look_row := g_look_row.cal D5 (PySem.W.mg_of X G a5)
  have g_put_part := ok_put_part (P := P) (w := w) (base := base) (k := 5) M D6 (c_row_of.mono (by decide)) r_Taken (by decide)
  have c_put_part := g_put_part.cal D6 (PySem.W.mg_of X G a6)
  have g_drop_part := ok_drop_part (P := P) (w := w) (base := base) (k := 6) M D7 (c_look_row.mono (by decide))
  have c_drop_part := g_drop_part.cal D7 (PySem.W.mg_of X G a7)
  have g_set_part := ok_set_part (P := P) (w := w) (base := base) (k := 6) M D8 (c_column_place.mono (by decide)) (c_look_row.mono (by decide))
  have c_set_part := g_set_part.cal D8 (PySem.W.mg_of X G a8)
  have g_sweep_part := ok_sweep_part (P := P) (w := w) (base := base) (k := 5) M D9 (c_rows_of.mono (by decide)) (c_column_place.mono (by decide))
  have c_sweep_part := g_sweep_part.cal D9 (PySem.W.mg_of X G a9)
  have g_shift_part := ok_shift_part (P := P) (w := w) (base := base) (k := 5) M D10 (c_rows_of.mono (by decide)) (c_column_place.mono (by decide))
  have c_shift_part := g_shift_part.cal D10 (PySem.W.mg_of X G a10)
  have g_own_part := ok_own_part (P := P) (w := w) (base := base) (k := 7) M D11 (c_set_part.mono (by decide)) (c_sweep_part.mono (by decide)) (c_shift_part.mono (by decide)) (c_put_part.mono (by decide)) (c_drop_part.mono (by decide))
  have c_own_part := g_own_part.cal D11 (PySem.W.mg_of X G a11)
  have g_law_begin := ok_law_begin (P := P) (w := w) (base := base) (k := 0) M D12 
  have c_law_begin := g_law_begin.cal D12 (PySem.W.mg_of X G a12)
  have g_law_take := ok_law_take (P := P) (w := w) (base := base) (k := 0) M D13 
  have c_law_take := g_law_take.cal D13 (PySem.W.mg_of X G a13)
  have g_law_some := ok_law_some (P := P) (w := w) (base := base) (k := 1) M D14 (c_law_take.mono (by decide))
  have c_law_some := g_law_some.cal D14 (PySem.W.mg_of X G a14)
  have g_law_names := ok_law_names (P := P) (w := w) (base := base) (k := 1) M D15 (c_law_take.mono (by decide))
  have c_law_names := g_law_names.cal D15 (PySem.W.mg_of X G a15)
  have g_law_worth := ok_law_worth (P := P) (w := w) (base := base) (k := 1) M D16 (c_law_take.mono (by decide))
  have c_law_worth := g_law_worth.cal D16 (PySem.W.mg_of X G a16)
  have g_law_tables := ok_law_tables (P := P) (w := w) (base := base) (k := 2) M D17 (c_law_names.mono (by decide)) (c_law_take.mono (by decide)) (c_law_worth.mono (by decide))
  have c_law_tables := g_law_tables.cal D17 (PySem.W.mg_of X G a17)
  have g_law_near := ok_law_near (P := P) (w := w) (base := base) (k := 2) M D18 (c_law_worth.mono (by decide)) (c_law_take.mono (by decide))
  have c_law_near := g_law_near.cal D18 (PySem.W.mg_of X G a18)
  have g_law_content := ok_law_content (P := P) (w := w) (base := base) (k := 3) M D19 (c_law_take.mono (by decide)) (c_law_near.mono (by decide))
  have c_law_content := g_law_content.cal D19 (PySem.W.mg_of X G a19)
  have g_law_deed := ok_law_deed (P := P) (w := w) (base := base) (k := 3) M D20 (c_law_take.mono (by decide)) (c_law_some.mono (by decide)) (c_law_near.mono (by decide))
  have c_law_deed := g_law_deed.cal D20 (PySem.W.mg_of X G a20)
  have g_law_copiedO := ok_law_copiedO (P := P) (w := w) (base := base) (k := 0) M D21 
  have c_law_copiedO := g_law_copiedO.cal D21 (PySem.W.mg_of X G a21)
  have g_law_same := ok_law_same (P := P) (w := w) (base := base) (k := 0) M (PySem.W.mg_of X G a22) D22  12
  have c_law_same := g_law_same.cal D22 (PySem.W.mg_of X G a22)
  have g_law_due := ok_law_due (P := P) (w := w) (base := base) (k := 0) M D23 
  have c_law_due := g_law_due.cal D23 (PySem.W.mg_of X G a23)
  have g_law_told := ok_law_told (P := P) (w := w) (base := base) (k := 8) M D24 (c_own_part.mono (by decide))
  have c_law_told := g_law_told.cal D24 (PySem.W.mg_of X G a24)
  have g_law := ok_law (P := P) (w := w) (base := base) (k := 12) M D25 (c_law_same.mono (by decide)) (c_law_told.mono (by decide)) (c_law_copiedO.mono (by decide)) (c_law_due.mono (by decide)) (c_law_deed.mono (by decide)) (c_law_content.mono (by decide)) (c_law_take.mono (by decide)) (c_law_tables.mono (by decide)) (c_law_begin.mono (by decide))
  exact g_law
end GA
open PySem PySem.W PyProof.Rows
set_option maxRecDepth 100000 in
set_option maxHeartbeats 0 in
theorem PySem.Challenge.cw_tiedtables_k07_what_deeds_do_by_themselv_holds : PySem.Challenge.rw_tiedtables_k07_what_deeds_do_by_themselv.Holds := by
  w_on; o_law; k_head; (case hw => w_witness2)
  k_fill
  refine M3.walk_ofKX (l := PySem.Challenge.rw_tiedtables_k07_what_deeds_do_by_themselv) (n := 63) (k := 13) (x := "script") (sp := fun K => M3.spM K 1 (GA.F_law)) rfl (by decide) rfl ⟨rfl, by decide, by decide⟩ (fun w h Y => PySem.W.kIn_of Y) ?F (fun K H a ns hl _ hS => let ⟨_, e⟩ := GA.law_true ns hl; M3.law_says hS e)
  case F =>
    intro w mg fa h KX G hmg
    refine' GA.all_mk KX G hmg ?a0 ?l0 ?c0 ?k0 ?a1 ?l1 ?c1 ?k1 ?a2 ?l2 ?c2 ?k2 ?a3 ?l3 ?c3 ?k3 ?a4 ?l4 ?c4 ?k4 ?a5 ?l5 ?c5 ?k5 ?a6 ?l6 ?c6 ?k6 ?a7 ?l7 ?c7 ?k7 ?a8 ?l8 ?c8 ?k8 ?a9 ?l9 ?c9 ?k9 ?a10 ?l10 ?c10 ?k10 ?a11 ?l11 ?c11 ?k11 ?a12 ?l12 ?c12 ?k12 ?a13 ?l13 ?c13 ?k13 ?a14 ?l14 ?c14 ?k14 ?a15 ?l15 ?c15 ?k15 ?a16 ?l16 ?c16 ?k16 ?a17 ?l17 ?c17 ?k17 ?a18 ?l18 ?c18 ?k18 ?a19 ?l19 ?c19 ?k19 ?a20 ?l20 ?c20 ?k20 ?a21 ?l21 ?c21 ?k21 ?a22 ?l22 ?c22 ?k22 ?a23 ?l23 ?c23 ?k23 ?a24 ?l24 ?c24 ?k24 ?a25 ?l25 ?c25 ?k25 ?gnO ?tkO ?aC_Taken ?aC_NoRow ?aC_NoSuch ?aC_TableError ?aC_Barred ?eC_Taken ?tC_Taken ?hC_Taken ?eC_NoSuch ?tC_NoSuch ?hC_NoSuch ?eC_NoRow ?tC_NoRow ?hC_NoRow ?eC_TableError ?tC_TableError ?hC_TableError ?gb_TableError ?rb_TableError ?fb_TableError ?xL_Taken ?sa_Taken ?ga_Taken ?gg_Taken ?no_Taken_table ?no_Taken_key ?kC_Taken ?cC_Taken ?ca_Taken ?mo_Taken ?iC_Taken ?tI_Taken ?lI_Taken ?cI_Taken ?xL_NoRow ?sa_NoRow ?ga_NoRow ?gg_NoRow ?no_NoRow_table ?no_NoRow_key ?kC_NoRow ?cC_NoRow ?ca_NoRow ?mo_NoRow ?iC_NoRow ?tI_NoRow ?lI_NoRow ?cI_NoRow ?z_LookupError ?xL_NoSuch ?sa_NoSuch ?ga_NoSuch ?gg_NoSuch ?no_NoSuch_what ?no_NoSuch_name ?kC_NoSuch ?cC_NoSuch ?ca_NoSuch ?mo_NoSuch ?iC_NoSuch ?tI_NoSuch ?lI_NoSuch ?cI_NoSuch ?s_TableError_Taken ?s_TableError_NoRow ?s_TableError_NoSuch ?kt_0_Taken ?kt_0_NoRow ?kt_0_NoSuch ?kt_1_Taken ?kt_1_NoRow ?kt_1_NoSuch ?kt_2_Taken ?kt_2_NoRow ?kt_2_NoSuch ?kt_3_Taken ?kt_3_NoRow ?kt_3_NoSuch ?z_ValueError ?z_all ?z_bool ?z_divmod ?z_enumerate ?z_int ?z_isinstance ?z_len ?z_list ?z_min ?z_range ?z_repr ?z_str ?z_tuple ?z_zip ?y_COLUMN_PARTS ?u_COLUMN_PARTS ?e_COLUMN_PARTS_0 ?e_COLUMN_PARTS_1 ?x_COLUMN_PARTS ?y_ROW_PARTS ?u_ROW_PARTS ?e_ROW_PARTS_0 ?e_ROW_PARTS_1 ?x_ROW_PARTS
    (case a0 => k_is); (case l0 => k_is); (case c0 => k_is); (case k0 => k_is); (case a1 => k_is); (case l1 => k_is); (case c1 => k_is); (case k1 => k_is); (case a2 => k_is); (case l2 => k_is); (case c2 => k_is); (case k2 => k_is); (case a3 => k_is); (case l3 => k_is); (case c3 => k_is); (case k3 => k_is); (case a4 => k_is); (case l4 => k_is); (case c4 => k_is); (case k4 => k_is); (case a5 => k_is); (case l5 => k_is); (case c5 => k_is); (case k5 => k_is); (case a6 => k_is); (case l6 => k_is); (case c6 => k_is); (case k6 => k_is); (case a7 => k_is); (case l7 => k_is); (case c7 => k_is); (case k7 => k_is); (case a8 => k_is); (case l8 => k_is); (case c8 => k_is); (case k8 => k_is); (case a9 => k_is); (case l9 => k_is); (case c9 => k_is); (case k9 => k_is); (case a10 => k_is); (case l10 => k_is); (case c10 => k_is); (case k10 => k_is); (case a11 => k_is); (case l11 => k_is); (case c11 => k_is); (case k11 => k_is); (case a12 => k_is); (case l12 => k_is); (case c12 => k_is); (case k12 => k_is); (case a13 => k_is); (case l13 => k_is); (case c13 => k_is); (case k13 => k_is); (case a14 => k_is); (case l14 => k_is); (case c14 => k_is); (case k14 => k_is); (case a15 => k_is); (case l15 => k_is); (case c15 => k_is); (case k15 => k_is); (case a16 => k_is); (case l16 => k_is); (case c16 => k_is); (case k16 => k_is); (case a17 => k_is); (case l17 => k_is); (case c17 => k_is); (case k17 => k_is); (case a18 => k_is); (case l18 => k_is); (case c18 => k_is); (case k18 => k_is); (case a19 => k_is); (case l19 => k_is); (case c19 => k_is); (case k19 => k_is); (case a20 => k_is); (case l20 => k_is); (case c20 => k_is); (case k20 => k_is); (case a21 => k_is); (case l21 => k_is); (case c21 => k_is); (case k21 => k_is); (case a22 => k_is); (case l22 => k_is); (case c22 => k_is); (case k22 => k_is); (case a23 => k_is); (case l23 => k_is); (case c23 => k_is); (case k23 => k_is); (case a24 => k_is); (case l24 => k_is); (case c24 => k_is); (case k24 => k_is); (case a25 => k_is); (case l25 => k_is); (case c25 => k_is); (case k25 => k_is); (case gnO => k_is); (case tkO => k_is); (case aC_Taken => k_is); (case aC_NoRow => k_is); (case aC_NoSuch => k_is); (case aC_TableError => k_is); (case aC_Barred => k_is); (case eC_Taken => k_is); (case tC_Taken => k_is); (case hC_Taken => k_is); (case eC_NoSuch => k_is); (case tC_NoSuch => k_is); (case hC_NoSuch => k_is); (case eC_NoRow => k_is); (case tC_NoRow => k_is); (case hC_NoRow => k_is); (case eC_TableError => k_is); (case tC_TableError => k_is); (case hC_TableError => k_is); (case gb_TableError => k_is); (case rb_TableError => k_is); (case fb_TableError => k_is); (case xL_Taken => k_is); (case sa_Taken => k_is); (case ga_Taken => k_is); (case gg_Taken => k_is); (case no_Taken_table => k_is); (case no_Taken_key => k_is); (case kC_Taken => k_is); (case cC_Taken => k_is); (case ca_Taken => k_is); (case mo_Taken => k_is); (case iC_Taken => k_is); (case tI_Taken => k_is); (case lI_Taken => k_is); (case cI_Taken => k_is); (case xL_NoRow => k_is); (case sa_NoRow => k_is); (case ga_NoRow => k_is); (case gg_NoRow => k_is); (case no_NoRow_table => k_is); (case no_NoRow_key => k_is); (case kC_NoRow => k_is); (case cC_NoRow => k_is); (case ca_NoRow => k_is); (case mo_NoRow => k_is); (case iC_NoRow => k_is); (case tI_NoRow => k_is); (case lI_NoRow => k_is); (case cI_NoRow => k_is); (case z_LookupError => k_is); (case xL_NoSuch => k_is); (case sa_NoSuch => k_is); (case ga_NoSuch => k_is); (case gg_NoSuch => k_is); (case no_NoSuch_what => k_is); (case no_NoSuch_name => k_is); (case kC_NoSuch => k_is); (case cC_NoSuch => k_is); (case ca_NoSuch => k_is); (case mo_NoSuch => k_is); (case iC_NoSuch => k_is); (case tI_NoSuch => k_is); (case lI_NoSuch => k_is); (case cI_NoSuch => k_is); (case s_TableError_Taken => first | rfl | k_is); (case s_TableError_NoRow => first | rfl | k_is); (case s_TableError_NoSuch => first | rfl | k_is); (case kt_0_Taken => first | rfl | k_is); (case kt_0_NoRow => first | rfl | k_is); (case kt_0_NoSuch => first | rfl | k_is); (case kt_1_Taken => first | rfl | k_is); (case kt_1_NoRow => first | rfl | k_is); (case kt_1_NoSuch => first | rfl | k_is); (case kt_2_Taken => first | rfl | k_is); (case kt_2_NoRow => first | rfl | k_is); (case kt_2_NoSuch => first | rfl | k_is); (case kt_3_Taken => first | rfl | k_is); (case kt_3_NoRow => first | rfl | k_is); (case kt_3_NoSuch => first | rfl | k_is); (case z_ValueError => k_is); (case z_all => k_is); (case z_bool => k_is); (case z_divmod => k_is); (case z_enumerate => k_is); (case z_int => k_is); (case z_isinstance => k_is); (case z_len => k_is); (case z_list => k_is); (case z_min => k_is); (case z_range => k_is); (case z_repr => k_is); (case z_str => k_is); (case z_tuple => k_is); (case z_zip => k_is); (case y_COLUMN_PARTS => k_is); (case u_COLUMN_PARTS => k_is); (case e_COLUMN_PARTS_0 => exact rfl); (case e_COLUMN_PARTS_1 => exact rfl); (case x_COLUMN_PARTS => exact rfl); (case y_ROW_PARTS => k_is); (case u_ROW_PARTS => k_is); (case e_ROW_PARTS_0 => exact rfl); (case e_ROW_PARTS_1 => exact rfl); (case x_ROW_PARTS => exact rfl)

