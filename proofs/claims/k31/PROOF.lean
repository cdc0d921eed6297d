import PyProof.Rows.All
import Wide.All
import OpenK.AllK
import Wide.FinOn
import HandS.ForMost
import HandS.ForExc
import HandS.Small
import HandS.Walk
import HandS.Wide
import HandS.Text
import HandS.IsInst
import HandS.Codes
import HandS.Deep
import PyProof.ListStr
import PyProof.Rows.SeqMore
import HandS.More
import HandS.Dict
import HandS.Comp
import HandS.DictComp
import HandS.ExcIs
import HandS.ExcOwn
import KE.GoesNew
import KE.GoesMore
import HandS.Iter
import HandS.RevTup
import HandS.Conv
import HandS.Defaults
import HandS.Head2
import HandS.HeadHook2
import HandS.HeadEnd
import PyProof.TupleOfStr
import KE.KStateDown
import HandS.Ends
import HandS.MapJoin
import HandS.WideBits
import PyProof.JoinWalk
import KE.LtData
import PyProof.StrLawsIn
import PyProof.Rows.StrLawsPart
import PySem.Challenge.RW_madeanew_k31_worths_and_widths
set_option Elab.async false
set_option linter.all false
set_option maxRecDepth 100000
namespace Ip
open PySem L2

/-! ## data by value -/
inductive D where
  | non | bl (b : Bool) | int (i : Int) | str (s : Str)
  | tup (ds : List D) | lst (ds : List D)
  | dic (ks ds : List D)
  | dit (ks : List (List Key)) (ds : List D)
  | obj (c : Str) (ns : List Str) (ds : List D)
  deriving Inhabited

def kD : Key → D
  | .inl i => .int i
  | .inr x => .str x
def kT (k : List Key) : D := .tup (k.map kD)

/-- facts of the text: the written part, the classes' addresses -/
structure Gx where
  K : PySem.W.Frag
  ct : Str → Option Addr

mutual
/-- v stands for d in the heap H -/
inductive RV (g : Gx) (H : Hp) : D → V → Prop where
  | non : RV g H .non .non
  | bl (b : Bool) : RV g H (.bl b) (.bl b)
  | int (i : Int) : RV g H (.int i) (.int i)
  | str (x : Str) : RV g H (.str x) (.str x)
  | tup {a : Addr} {vs : List V} {ds : List D} : H a = some (.tup vs) → RVs g H ds vs → RV g H (.tup ds) (.ref a)
  | lst {a : Addr} {vs : List V} {ds : List D} : SqL g.K H a vs → RVs g H ds vs → RV g H (.lst ds) (.ref a)
  | dK {a : Addr} {ks : List Key} {vs : List V} {ds : List D} : Rd H a (.dK (ks.zip vs)) → ks.length = vs.length → RVs g H ds vs → RV g H (.dic (ks.map kD) ds) (.ref a)
  | dT {a : Addr} {ks : List (List Key)} {vs : List V} {ds : List D} : Rd H a (.dT (ks.zip vs)) → ks.length = vs.length → RVs g H ds vs → RV g H (.dit ks ds) (.ref a)
  | obj {a C dx : Addr} {c : Str} {ns : List Str} {vs : List V} {ds : List D} : H a = some (.ins C dx (ns.zip vs)) → g.ct c = some C → ns.length = vs.length → RVs g H ds vs → RV g H (.obj c ns ds) (.ref a)
inductive RVs (g : Gx) (H : Hp) : List D → List V → Prop where
  | nil : RVs g H [] []
  | cons {d : D} {v : V} {ds : List D} {vs : List V} : RV g H d v → RVs g H ds vs → RVs g H (d :: ds) (v :: vs)
end

/-! ## heaps: a smaller one is kept (dicts up to their locks) -/
def NotD : HO → Prop
  | .dK _ => False
  | .dT _ => False
  | _ => True
structure HLe (A B : Hp) : Prop where
  o : ∀ b o, A b = some o → NotD o → B b = some o
  k : ∀ b kvs, Rd A b (.dK kvs) → Rd B b (.dK kvs)
  t : ∀ b kvs, Rd A b (.dT kvs) → Rd B b (.dT kvs)
theorem HLe.refl (A : Hp) : HLe A A := ⟨fun _ _ h _ => h, fun _ _ h => h, fun _ _ h => h⟩
theorem HLe.trans {A B C : Hp} (x : HLe A B) (y : HLe B C) : HLe A C :=
  ⟨fun b o h n => y.o b o (x.o b o h n) n, fun b k h => y.k b k (x.k b k h), fun b k h => y.t b k (x.t b k h)⟩
theorem HLe.of_same {A B : Hp} (s : Same A B) : HLe A B :=
  ⟨fun b o h _ => s b o h, fun b k h => h.elim (fun e => .inl (s _ _ e)) fun ⟨o, e⟩ => .inr ⟨o, s _ _ e⟩, fun b k h => h.elim (fun e => .inl (s _ _ e)) fun ⟨o, e⟩ => .inr ⟨o, s _ _ e⟩⟩
theorem HLe.rd {A B : Hp} (s : HLe A B) {a : Addr} {u : HO} (hn : NotD u) (hf : ∀ o, NotD (.frz o u)) (h : Rd A a u) : Rd B a u :=
  h.elim (fun e => .inl (s.o _ _ e hn)) fun ⟨o, e⟩ => .inr ⟨o, s.o _ _ e (hf o)⟩
theorem HLe.sqT {A B : Hp} (s : HLe A B) {K : PySem.W.Frag} {a : Addr} {vs : List V} (h : SqT K A a vs) : SqT K B a vs :=
  h.elim (fun e => .inl (s.rd trivial (fun _ => trivial) e)) .inr
theorem HLe.sqL {A B : Hp} (s : HLe A B) {K : PySem.W.Frag} {a : Addr} {vs : List V} (h : SqL K A a vs) : SqL K B a vs :=
  h.elim (fun e => .inl (s.rd trivial (fun _ => trivial) e)) .inr
mutual
theorem RV.mono {g : Gx} {A B : Hp} (s : HLe A B) : ∀ {d : D} {v : V}, RV g A d v → RV g B d v
  | _, _, .non => .non
  | _, _, .bl b => .bl b
  | _, _, .int i => .int i
  | _, _, .str x => .str x
  | _, _, .tup h r => .tup (s.o _ _ h trivial) (RVs.mono s r)
  | _, _, .lst h r => .lst (s.sqL h) (RVs.mono s r)
  | _, _, .dK h l r => .dK (s.k _ _ h) l (RVs.mono s r)
  | _, _, .dT h l r => .dT (s.t _ _ h) l (RVs.mono s r)
  | _, _, .obj h c l r => .obj (s.o _ _ h trivial) c l (RVs.mono s r)
theorem RVs.mono {g : Gx} {A B : Hp} (s : HLe A B) : ∀ {ds : List D} {vs : List V}, RVs g A ds vs → RVs g B ds vs
  | _, _, .nil => .nil
  | _, _, .cons h r => .cons (RV.mono s h) (RVs.mono s r)
end
theorem RVs.length {g : Gx} {A : Hp} : ∀ {ds : List D} {vs : List V}, RVs g A ds vs → ds.length = vs.length
  | _, _, .nil => rfl
  | _, _, .cons _ r => by simp [RVs.length r]
theorem RVs.get {g : Gx} {A : Hp} : ∀ {ds : List D} {vs : List V} {i : Nat} {d : D}, RVs g A ds vs → ds[i]? = some d → ∃ v, vs[i]? = some v ∧ RV g A d v
  | _, _, _, _, .nil, e => by simp at e
  | _, _, 0, _, .cons r _, e => by simp at e; subst e; exact ⟨_, rfl, r⟩
  | _, _, i + 1, d, .cons _ t, e => by
    obtain ⟨u, h1, h2⟩ := RVs.get (i := i) (d := d) t (by simpa using e)
    exact ⟨u, by simpa using h1, h2⟩
theorem RVs.getV {g : Gx} {A : Hp} : ∀ {ds : List D} {vs : List V} {i : Nat} {v : V}, RVs g A ds vs → vs[i]? = some v → ∃ d, ds[i]? = some d ∧ RV g A d v
  | _, _, _, _, .nil, e => by simp at e
  | _, _, 0, _, .cons r _, e => by simp at e; subst e; exact ⟨_, rfl, r⟩
  | _, _, i + 1, d, .cons _ t, e => by
    obtain ⟨u, h1, h2⟩ := RVs.getV (i := i) (v := d) t (by simpa using e)
    exact ⟨u, by simpa using h1, h2⟩
theorem RVs.app {g : Gx} {A : Hp} : ∀ {ds es : List D} {vs ws : List V}, RVs g A ds vs → RVs g A es ws → RVs g A (ds ++ es) (vs ++ ws)
  | _, _, _, _, .nil, s => s
  | _, _, _, _, .cons r t, s => .cons r (RVs.app t s)
theorem RVs.set {g : Gx} {A : Hp} {d : D} {v : V} (r : RV g A d v) : ∀ {ds : List D} {vs : List V} (i : Nat), RVs g A ds vs → RVs g A (ds.set i d) (vs.set i v)
  | _, _, _, .nil => .nil
  | _, _, 0, .cons _ t => .cons r t
  | _, _, i + 1, .cons q t => .cons q (RVs.set r i t)
theorem RVs.take {g : Gx} {A : Hp} : ∀ {ds : List D} {vs : List V} (n : Nat), RVs g A ds vs → RVs g A (ds.take n) (vs.take n)
  | _, _, 0, _ => .nil
  | _, _, _ + 1, .nil => .nil
  | _, _, n + 1, .cons r t => .cons r (RVs.take n t)
theorem RVs.drop {g : Gx} {A : Hp} : ∀ {ds : List D} {vs : List V} (n : Nat), RVs g A ds vs → RVs g A (ds.drop n) (vs.drop n)
  | _, _, 0, r => r
  | _, _, _ + 1, .nil => .nil
  | _, _, n + 1, .cons _ t => RVs.drop n t
theorem RVs.eraseIdx {g : Gx} {A : Hp} : ∀ {ds : List D} {vs : List V} (n : Nat), RVs g A ds vs → RVs g A (ds.eraseIdx n) (vs.eraseIdx n)
  | _, _, _, .nil => .nil
  | _, _, 0, .cons _ t => t
  | _, _, n + 1, .cons r t => .cons r (RVs.eraseIdx n t)
theorem RVs.reverse {g : Gx} {A : Hp} {ds : List D} {vs : List V} (h : RVs g A ds vs) : RVs g A ds.reverse vs.reverse := by
  induction ds generalizing vs with
  | nil => cases h; exact .nil
  | cons d ds ih =>
    cases h with
    | cons r t =>
      rw [List.reverse_cons, List.reverse_cons]
      exact RVs.app (ih t) (.cons r .nil)
theorem RVs.ints {g : Gx} {A : Hp} : ∀ (ns : List Int), RVs g A (ns.map D.int) (ns.map V.int)
  | [] => .nil
  | n :: ns => .cons (.int n) (RVs.ints ns)
theorem RVs.of_ints {g : Gx} {A : Hp} : ∀ {ns : List Int} {vs : List V}, RVs g A (ns.map D.int) vs → vs = ns.map V.int
  | [], _, .nil => rfl
  | n :: ns, _, .cons (.int _) t => by rw [RVs.of_ints t]; rfl
theorem RVs.of_strs {g : Gx} {A : Hp} : ∀ {ns : List Str} {vs : List V}, RVs g A (ns.map D.str) vs → vs = ns.map V.str
  | [], _, .nil => rfl
  | n :: ns, _, .cons (.str _) t => by rw [RVs.of_strs t]; rfl

/-! ## masks -/
def mask (H : Hp) (M : List Addr) : Hp := fun a => if a ∈ M then none else H a
theorem mask_in {H : Hp} {M : List Addr} {a : Addr} (h : a ∈ M) : mask H M a = none := by unfold mask; rw [if_pos h]
theorem mask_out {H : Hp} {M : List Addr} {a : Addr} (h : a ∉ M) : mask H M a = H a := by unfold mask; rw [if_neg h]
theorem mask_some {H : Hp} {M : List Addr} {a : Addr} {o : HO} (h : mask H M a = some o) : a ∉ M ∧ H a = some o := by
  unfold mask at h
  by_cases q : a ∈ M
  · rw [if_pos q] at h; cases h
  · rw [if_neg q] at h; exact ⟨q, h⟩
theorem mask_same {H : Hp} {M : List Addr} : Same (mask H M) H := fun _ _ h => (mask_some h).2
theorem mask_sub {H : Hp} {M M' : List Addr} (h : ∀ a ∈ M', a ∈ M) : Same (mask H M) (mask H M') := fun b o e => by
  obtain ⟨h1, h2⟩ := mask_some e
  rw [mask_out (fun q => h1 (h b q))]; exact h2
theorem mask_congr {H : Hp} {M M' : List Addr} (h : ∀ a, a ∈ M ↔ a ∈ M') : mask H M = mask H M' := by
  funext a
  unfold mask
  by_cases q : a ∈ M
  · rw [if_pos q, if_pos ((h a).mp q)]
  · rw [if_neg q, if_neg fun z => q ((h a).mpr z)]
/-- all that is not masked is kept -/
theorem mask_keep {H H' : Hp} {M : List Addr} (s : ∀ b o, b ∉ M → H b = some o → H' b = some o) : Same (mask H M) (mask H' M) := fun b o e => by
  obtain ⟨h1, h2⟩ := mask_some e
  rw [mask_out h1]; exact s b o h1 h2
theorem RV.out {g : Gx} {H : Hp} {M : List Addr} {d : D} {v : V} (h : RV g (mask H M) d v) : RV g H d v := h.mono (.of_same mask_same)
theorem RVs.out {g : Gx} {H : Hp} {M : List Addr} {d : List D} {v : List V} (h : RVs g (mask H M) d v) : RVs g H d v := h.mono (.of_same mask_same)

/-! ## an object that is owned: what stands at a, its items within Hm -/
inductive Cont (g : Gx) (H Hm : Hp) (a : Addr) : D → Prop where
  | lst {vs : List V} {ds : List D} : H a = some (.lst vs) → RVs g Hm ds vs → Cont g H Hm a (.lst ds)
  | dK {ks : List Key} {vs : List V} {ds : List D} : H a = some (.dK (ks.zip vs)) → ks.length = vs.length → RVs g Hm ds vs → Cont g H Hm a (.dic (ks.map kD) ds)
  | dT {ks : List (List Key)} {vs : List V} {ds : List D} : H a = some (.dT (ks.zip vs)) → ks.length = vs.length → RVs g Hm ds vs → Cont g H Hm a (.dit ks ds)
  | obj {C dx : Addr} {c : Str} {ns : List Str} {vs : List V} {ds : List D} : H a = some (.ins C dx (ns.zip vs)) → g.ct c = some C → ns.length = vs.length → RVs g Hm ds vs → Cont g H Hm a (.obj c ns ds)
theorem Cont.mono {g : Gx} {H H' A B : Hp} {a : Addr} {d : D} (e : ∀ o, H a = some o → H' a = some o) (s : HLe A B) (h : Cont g H A a d) : Cont g H' B a d := by
  cases h with
  | lst h r => exact .lst (e _ h) (r.mono s)
  | dK h l r => exact .dK (e _ h) l (r.mono s)
  | dT h l r => exact .dT (e _ h) l (r.mono s)
  | obj h c l r => exact .obj (e _ h) c l (r.mono s)
theorem Cont.trk {g : Gx} {H Hm : Hp} {a : Addr} {d : D} (h : Cont g H Hm a d) : H a ≠ none := by
  cases h with
  | lst h _ => rw [h]; simp
  | dK h _ _ => rw [h]; simp
  | dT h _ _ => rw [h]; simp
  | obj h _ _ _ => rw [h]; simp
/-- it is let go: from now on it is read alone -/
theorem Cont.rv {g : Gx} {H Hm : Hp} {a : Addr} {d : D} (h : Cont g H Hm a d) {Hn : Hp} (e : Hn a = H a) (s : HLe Hm Hn) : RV g Hn d (.ref a) := by
  cases h with
  | lst h r => exact .lst (.of (e.trans h)) (r.mono s)
  | dK h l r => exact .dK (.inl (e.trans h)) l (r.mono s)
  | dT h l r => exact .dT (.inl (e.trans h)) l (r.mono s)
  | obj h c l r => exact .obj (e.trans h) c l (r.mono s)
end Ip
namespace Ip
open PySem L2

abbrev Env := List (Option D)
/-- known, and no tuple -/
def Hd (H : Hp) (a : Addr) : Prop := H a ≠ none ∧ ∀ vs, H a ≠ some (.tup vs)
theorem Hd.of {H H' : Hp} {a : Addr} (h : Hd H a) (e : H' a = H a) : Hd H' a := by unfold Hd; rw [e]; exact h
theorem Cont.hd {g : Gx} {H Hm : Hp} {a : Addr} {d : D} (h : Cont g H Hm a d) : Hd H a := by
  cases h with
  | lst h _ => exact ⟨by rw [h]; simp, fun vs => by rw [h]; simp⟩
  | dK h _ _ => exact ⟨by rw [h]; simp, fun vs => by rw [h]; simp⟩
  | dT h _ _ => exact ⟨by rw [h]; simp, fun vs => by rw [h]; simp⟩
  | obj h _ _ _ => exact ⟨by rw [h]; simp, fun vs => by rw [h]; simp⟩
structure Ex where
  cls : Str
  fld : Option D
inductive R (α : Type) where
  | ok (a : α) (ρ : Env) | exn (e : Ex) (ρ : Env) | bad
inductive Fl where
  | nx | rt (d : D) | bk | ct

/-- a def's activation: the classes, the heap at its entry, what its callers own, the parameters that it may change -/
structure Ac where
  ct : Str → Option Addr
  H0 : Hp
  hid : List Addr
  io : List Nat
  ioA : List Addr

def sa (σ : L2.St) (i : Nat) : Addr := match σ[i]? with
  | some (some (.ref a)) => a
  | _ => 0
theorem nem {Γ : List Nat} {i j : Nat} (h : i ∉ Γ) (hj : j ∈ Γ) : j ≠ i := fun e => h (e ▸ hj)
theorem sa_eq {σ : L2.St} {i : Nat} {a : Addr} (h : σ[i]? = some (some (.ref a))) : sa σ i = a := by unfold sa; rw [h]
theorem sa_set {σ : L2.St} {i j : Nat} {v : Option V} (h : j ≠ i) : sa (σ.set i v) j = sa σ j := by
  unfold sa; rw [List.getElem?_set_ne (Ne.symm h)]
def Ms (σ : L2.St) (hid : List Addr) (Γ : List Nat) : List Addr := hid ++ Γ.map (sa σ)
theorem mem_Ms {σ : L2.St} {hid : List Addr} {Γ : List Nat} {a : Addr} : a ∈ Ms σ hid Γ ↔ a ∈ hid ∨ ∃ i, i ∈ Γ ∧ sa σ i = a := by
  unfold Ms; rw [List.mem_append, List.mem_map]

section
variable (K : PySem.W.Frag) (C : Ac)
abbrev gx : Gx := ⟨K, C.ct⟩
structure ST (hid : List Addr) (Γ : List Nat) (ρ : Env) (σ : L2.St) (H : Hp) : Prop where
  len : ρ.length = σ.length
  sub : ∀ a ∈ C.hid, a ∈ hid
  trk : ∀ a ∈ hid, Hd H a
  tmp : ∀ a ∈ hid, a ∈ C.hid ∨ C.H0 a = none
  nd : (Γ.map (sa σ)).Nodup
  dis : ∀ i ∈ Γ, sa σ i ∉ hid
  own : ∀ i ∈ Γ, sa σ i ∈ C.ioA ∨ C.H0 (sa σ i) = none
  frm : HLe (mask C.H0 (C.hid ++ C.ioA)) (mask H (C.hid ++ C.ioA))
  frh : ∀ a ∈ C.hid, H a = C.H0 a
  gro : ∀ a, C.H0 a ≠ none → H a ≠ none
  io : ∀ i ∈ C.io, i ∈ Γ
  pin : C.io.map (sa σ) = C.ioA
  sl : ∀ i d, i ∉ Γ → ρ[i]? = some (some d) → ∃ v, σ[i]? = some (some v) ∧ RV (gx K C) (mask H (Ms σ hid Γ)) d v
  ow : ∀ i, i ∈ Γ → ∃ d, ρ[i]? = some (some d) ∧ σ[i]? = some (some (.ref (sa σ i))) ∧ Cont (gx K C) H (mask H (Ms σ hid Γ)) (sa σ i) d
end
/-- what a step keeps -/
structure Stp (M M' hid : List Addr) (H H' : Hp) : Prop where
  le : HLe (mask H M) (mask H' M')
  fx : ∀ a ∈ hid, H' a = H a
theorem Stp.refl (M hid : List Addr) (H : Hp) : Stp M M hid H H := ⟨.refl _, fun _ _ => rfl⟩
theorem Stp.trans {M1 M2 M3 h1 h2 : List Addr} {A B Cc : Hp} (x : Stp M1 M2 h1 A B) (y : Stp M2 M3 h2 B Cc) (s : ∀ a ∈ h1, a ∈ h2) : Stp M1 M3 h1 A Cc :=
  ⟨x.le.trans y.le, fun a h => (y.fx a (s a h)).trans (x.fx a h)⟩

/-- a value that has come: fz: read alone; else it is owned (fresh), or of no object; tm: its address -/
inductive Val (g : Gx) (H : Hp) (M : List Addr) : Bool → D → V → List Addr → Prop where
  | fz {d : D} {v : V} {b : Bool} : RV g (mask H M) d v → (b = true → ∀ a, v ≠ .ref a) → Val g H M b d v []
  | fr {d : D} {a : Addr} : Cont g H (mask H M) a d → Val g H M true d (.ref a) [a]

section
variable {K : PySem.W.Frag} {C : Ac} {hid : List Addr} {Γ : List Nat} {ρ : Env} {σ : L2.St} {H : Hp}
theorem ST.inj (S : ST K C hid Γ ρ σ H) {i j : Nat} (hi : i ∈ Γ) (hj : j ∈ Γ) (e : sa σ i = sa σ j) : i = j := by
  have nd := S.nd
  clear S
  induction Γ with
  | nil => cases hi
  | cons k r ih =>
    rw [List.map_cons, List.nodup_cons] at nd
    rcases List.mem_cons.mp hi with rfl | hi'
    · rcases List.mem_cons.mp hj with rfl | hj'
      · rfl
      · exact absurd (e ▸ List.mem_map_of_mem hj') nd.1
    · rcases List.mem_cons.mp hj with rfl | hj'
      · exact absurd (e ▸ List.mem_map_of_mem hi') nd.1
      · exact ih hi' hj' nd.2
theorem ST.trkM (S : ST K C hid Γ ρ σ H) : ∀ a ∈ Ms σ hid Γ, H a ≠ none := fun a ha => by
  rcases mem_Ms.mp ha with h | ⟨i, hi, rfl⟩
  · exact (S.trk a h).1
  · obtain ⟨d, _, _, c⟩ := S.ow i hi
    exact c.trk
theorem ST.ntp (S : ST K C hid Γ ρ σ H) : ∀ a ∈ Ms σ hid Γ, ∀ vs, H a ≠ some (.tup vs) := fun a ha => by
  rcases mem_Ms.mp ha with h | ⟨i, hi, rfl⟩
  · exact (S.trk a h).2
  · obtain ⟨d, _, _, c⟩ := S.ow i hi
    exact c.hd.2
theorem ST.hdM (S : ST K C hid Γ ρ σ H) : ∀ a ∈ Ms σ hid Γ, Hd H a := fun a ha => ⟨S.trkM a ha, S.ntp a ha⟩
theorem nodup_of_map {α β : Type} {f : α → β} : ∀ {l : List α}, (l.map f).Nodup → l.Nodup
  | [], _ => List.nodup_nil
  | a :: l, h => by
    rw [List.map_cons, List.nodup_cons] at h
    exact List.nodup_cons.mpr ⟨fun q => h.1 (List.mem_map_of_mem q), nodup_of_map h.2⟩
theorem nodup_map_on {α β : Type} {f : α → β} : ∀ {l : List α}, l.Nodup → (∀ a ∈ l, ∀ b ∈ l, f a = f b → a = b) → (l.map f).Nodup
  | [], _, _ => List.nodup_nil
  | a :: l, h, hf => by
    rw [List.nodup_cons] at h
    rw [List.map_cons, List.nodup_cons]
    refine ⟨fun q => ?_, nodup_map_on h.2 fun x hx y hy => hf x (List.mem_cons_of_mem _ hx) y (List.mem_cons_of_mem _ hy)⟩
    obtain ⟨b, hb, e⟩ := List.mem_map.mp q
    have := hf b (List.mem_cons_of_mem _ hb) a List.mem_cons_self e
    exact h.1 (this ▸ hb)
/-- some owned slots are let go -/
theorem ST.weak (S : ST K C hid Γ ρ σ H) {Γ' : List Nat} (h : ∀ i ∈ Γ', i ∈ Γ) (nd : Γ'.Nodup) (io : ∀ i ∈ C.io, i ∈ Γ') : ST K C hid Γ' ρ σ H := by
  have hM : ∀ a, a ∈ Ms σ hid Γ' → a ∈ Ms σ hid Γ := fun a ha => by
    rcases mem_Ms.mp ha with q | ⟨i, hi, e⟩
    · exact mem_Ms.mpr (.inl q)
    · exact mem_Ms.mpr (.inr ⟨i, h i hi, e⟩)
  have le : HLe (mask H (Ms σ hid Γ)) (mask H (Ms σ hid Γ')) := .of_same (mask_sub hM)
  refine ⟨S.len, S.sub, S.trk, S.tmp, nodup_map_on nd fun a ha b hb e => S.inj (h a ha) (h b hb) e, fun i hi => S.dis i (h i hi), fun i hi => S.own i (h i hi), S.frm, S.frh, S.gro, io, S.pin, fun i d hi e => ?_, fun i hi => ?_⟩
  · by_cases q : i ∈ Γ
    · obtain ⟨d', e1, e2, c⟩ := S.ow i q
      rw [e] at e1; cases e1
      refine ⟨_, e2, c.rv ?_ le⟩
      rw [mask_out]
      intro z
      rcases mem_Ms.mp z with z | ⟨j, hj, ej⟩
      · exact S.dis i q z
      · exact hi (S.inj (h j hj) q ej ▸ hj)
    · obtain ⟨v, e1, r⟩ := S.sl i d q e
      exact ⟨v, e1, r.mono le⟩
  · obtain ⟨d, e1, e2, c⟩ := S.ow i (h i hi)
    exact ⟨d, e1, e2, c.mono (fun _ z => z) le⟩
theorem Ms_sub {σ : L2.St} {hid : List Addr} {Γ Γ' : List Nat} (h : ∀ i ∈ Γ', i ∈ Γ) : ∀ a, a ∈ Ms σ hid Γ' → a ∈ Ms σ hid Γ := fun a ha => by
  rcases mem_Ms.mp ha with q | ⟨i, hi, e⟩
  · exact mem_Ms.mpr (.inl q)
  · exact mem_Ms.mpr (.inr ⟨i, h i hi, e⟩)
theorem Ms_subH {σ : L2.St} {hid hid' : List Addr} {Γ : List Nat} (h : ∀ i ∈ hid', i ∈ hid) : ∀ a, a ∈ Ms σ hid' Γ → a ∈ Ms σ hid Γ := fun a ha => by
  rcases mem_Ms.mp ha with q | z
  · exact mem_Ms.mpr (.inl (h _ q))
  · exact mem_Ms.mpr (.inr z)
/-- temporaries are let go -/
theorem ST.forget (S : ST K C hid Γ ρ σ H) {hid' : List Addr} (h : ∀ a ∈ hid', a ∈ hid) (hs : ∀ a ∈ C.hid, a ∈ hid') : ST K C hid' Γ ρ σ H := by
  have le : HLe (mask H (Ms σ hid Γ)) (mask H (Ms σ hid' Γ)) := .of_same (mask_sub (Ms_subH h))
  refine ⟨S.len, hs, fun a ha => S.trk a (h a ha), fun a ha => S.tmp a (h a ha), S.nd, fun i hi q => S.dis i hi (h _ q), S.own, S.frm, S.frh, S.gro, S.io, S.pin, fun i d hi e => ?_, fun i hi => ?_⟩
  · obtain ⟨v, e1, r⟩ := S.sl i d hi e
    exact ⟨v, e1, r.mono le⟩
  · obtain ⟨d, e1, e2, c⟩ := S.ow i hi
    exact ⟨d, e1, e2, c.mono (fun _ z => z) le⟩
/-- the heap goes on, all that is not owned is kept, what is owned stands as it stood -/
theorem ST.step (S : ST K C hid Γ ρ σ H) {H' : Hp} (k : HLe (mask H (Ms σ hid Γ)) (mask H' (Ms σ hid Γ))) (f : ∀ a ∈ Ms σ hid Γ, H' a = H a) (gro : ∀ a, H a ≠ none → H' a ≠ none) : ST K C hid Γ ρ σ H' := by
  have fx : ∀ a ∈ hid, H' a = H a := fun a h => f a (mem_Ms.mpr (.inl h))
  -- the frame
  have frm : HLe (mask C.H0 (C.hid ++ C.ioA)) (mask H' (C.hid ++ C.ioA)) := by
    -- what C.H0 tracks outside is not owned, or it is a local's (then C.H0 does not track it)
    have out : ∀ b, b ∉ C.hid ++ C.ioA → C.H0 b ≠ none → b ∉ Ms σ hid Γ := fun b hb hn hM => by
      rcases mem_Ms.mp hM with q | ⟨i, hi, rfl⟩
      · rcases S.tmp b q with z | z
        · exact hb (List.mem_append_left _ z)
        · exact hn z
      · rcases S.own i hi with z | z
        · exact hb (List.mem_append_right _ z)
        · exact hn z
    refine ⟨fun b o e n => ?_, fun b kv e => ?_, fun b kv e => ?_⟩
    · obtain ⟨h1, h2⟩ := mask_some e
      have e2 := (mask_some (S.frm.o b o e n)).2
      have hM := out b h1 (by rw [h2]; simp)
      have := k.o b o (by rw [mask_out hM]; exact e2) n
      rw [mask_out hM] at this
      rw [mask_out h1]; exact this
    · have hb : b ∉ C.hid ++ C.ioA ∧ C.H0 b ≠ none := by
        rcases e with e | ⟨o, e⟩ <;> exact ⟨(mask_some e).1, by rw [(mask_some e).2]; simp⟩
      have hM := out b hb.1 hb.2
      have r1 := S.frm.k b kv e
      have r2 : Rd (mask H (Ms σ hid Γ)) b (.dK kv) := by
        rcases r1 with r | ⟨o, r⟩
        · exact .inl (by rw [mask_out hM]; exact (mask_some r).2)
        · exact .inr ⟨o, by rw [mask_out hM]; exact (mask_some r).2⟩
      rcases k.k b kv r2 with r | ⟨o, r⟩
      · exact .inl (by rw [mask_out hb.1]; exact (mask_some r).2)
      · exact .inr ⟨o, by rw [mask_out hb.1]; exact (mask_some r).2⟩
    · have hb : b ∉ C.hid ++ C.ioA ∧ C.H0 b ≠ none := by
        rcases e with e | ⟨o, e⟩ <;> exact ⟨(mask_some e).1, by rw [(mask_some e).2]; simp⟩
      have hM := out b hb.1 hb.2
      have r1 := S.frm.t b kv e
      have r2 : Rd (mask H (Ms σ hid Γ)) b (.dT kv) := by
        rcases r1 with r | ⟨o, r⟩
        · exact .inl (by rw [mask_out hM]; exact (mask_some r).2)
        · exact .inr ⟨o, by rw [mask_out hM]; exact (mask_some r).2⟩
      rcases k.t b kv r2 with r | ⟨o, r⟩
      · exact .inl (by rw [mask_out hb.1]; exact (mask_some r).2)
      · exact .inr ⟨o, by rw [mask_out hb.1]; exact (mask_some r).2⟩
  refine ⟨S.len, S.sub, fun a ha => (S.trk a ha).of (f a (mem_Ms.mpr (.inl ha))), S.tmp, S.nd, S.dis, S.own, frm, fun a ha => (fx a (S.sub a ha)).trans (S.frh a ha), fun a ha => gro a (S.gro a ha), S.io, S.pin, fun i d hi e => ?_, fun i hi => ?_⟩
  · obtain ⟨v, e1, r⟩ := S.sl i d hi e
    exact ⟨v, e1, r.mono k⟩
  · obtain ⟨d, e1, e2, c⟩ := S.ow i hi
    exact ⟨d, e1, e2, c.mono (fun o z => (f _ (mem_Ms.mpr (.inr ⟨i, hi, rfl⟩))).trans z) k⟩
/-- objects are new, none is changed -/
theorem ST.same (S : ST K C hid Γ ρ σ H) {H' : Hp} (k : Same H H') : ST K C hid Γ ρ σ H' := by
  refine S.step (.of_same (mask_keep fun b o _ e => k b o e)) (fun a ha => ?_) fun a ha => ?_
  · have := S.trkM a ha
    cases q : H a with
    | none => exact absurd q this
    | some o => exact k a o q
  · cases q : H a with
    | none => exact absurd q ha
    | some o => rw [k a o q]; simp
theorem ST.sameStp (S : ST K C hid Γ ρ σ H) {H' : Hp} (k : Same H H') : Stp (Ms σ hid Γ) (Ms σ hid Γ) hid H H' :=
  ⟨.of_same (mask_keep fun b o _ e => k b o e), fun a ha => by
    have := (S.trk a ha).1
    cases q : H a with
    | none => exact absurd q this
    | some o => exact k a o q⟩
theorem same_upd {H : Hp} {p : Addr} {o : HO} (h : H p = none) : Same H (upd H p o) := fun b u e => by
  rw [upd_ne (ne_of_none e h)]; exact e
theorem ST.none_out (S : ST K C hid Γ ρ σ H) {p : Addr} (h : H p = none) : p ∉ Ms σ hid Γ := fun q => S.trkM p q h
/-- a temporary is held -/
theorem ST.hold (S : ST K C hid Γ ρ σ H) {p : Addr} {o : HO} (h : H p = none) (hu : ∀ vs, o ≠ .tup vs := by intro _ z; cases z) : ST K C (p :: hid) Γ ρ σ (upd H p o) := by
  have hp := S.none_out h
  have h0 : C.H0 p = none := by
    cases q : C.H0 p with
    | none => rfl
    | some u => exact absurd h (S.gro p (by rw [q]; simp))
  have S1 := S.same (same_upd (o := o) h)
  have le : HLe (mask H (Ms σ hid Γ)) (mask (upd H p o) (Ms σ (p :: hid) Γ)) := .of_same fun b u e => by
    obtain ⟨e1, e2⟩ := mask_some e
    have hb : b ≠ p := ne_of_none e2 h
    rw [mask_out, upd_ne hb]; exact e2
    intro z
    rcases mem_Ms.mp z with z | z
    · rcases List.mem_cons.mp z with z | z
      · exact hb z
      · exact e1 (mem_Ms.mpr (.inl z))
    · exact e1 (mem_Ms.mpr (.inr z))
  refine ⟨S.len, fun a ha => List.mem_cons_of_mem _ (S.sub a ha), fun a ha => ?_, fun a ha => ?_, S.nd, fun i hi q => ?_, S.own, S1.frm, S1.frh, S1.gro, S.io, S.pin, fun i d hi e => ?_, fun i hi => ?_⟩
  · rcases List.mem_cons.mp ha with rfl | ha
    · exact ⟨by rw [upd_same]; simp, fun vs => by rw [upd_same]; exact fun z => hu vs (Option.some.inj z)⟩
    · exact S1.trk a ha
  · rcases List.mem_cons.mp ha with rfl | ha
    · exact .inr h0
    · exact S.tmp a ha
  · rcases List.mem_cons.mp q with q | q
    · exact hp (mem_Ms.mpr (.inr ⟨i, hi, q⟩))
    · exact S.dis i hi q
  · obtain ⟨v, e1, r⟩ := S.sl i d hi e
    exact ⟨v, e1, r.mono le⟩
  · obtain ⟨d, e1, e2, c⟩ := S.ow i hi
    exact ⟨d, e1, e2, c.mono (fun u z => same_upd h _ _ z) le⟩
theorem ST.holdStp (S : ST K C hid Γ ρ σ H) {p : Addr} {o : HO} (h : H p = none) : Stp (Ms σ hid Γ) (Ms σ (p :: hid) Γ) hid H (upd H p o) := by
  refine ⟨.of_same fun b u e => ?_, fun a ha => upd_ne fun z => (S.trk a ha).1 (z ▸ h)⟩
  obtain ⟨e1, e2⟩ := mask_some e
  have hb : b ≠ p := ne_of_none e2 h
  rw [mask_out, upd_ne hb]; exact e2
  intro z
  rcases mem_Ms.mp z with z | z
  · rcases List.mem_cons.mp z with z | z
    · exact hb z
    · exact e1 (mem_Ms.mpr (.inl z))
  · exact e1 (mem_Ms.mpr (.inr z))
theorem mask_updM {H : Hp} {M : List Addr} {a : Addr} {o : HO} (h : a ∈ M) : mask (upd H a o) M = mask H M := by
  funext b
  by_cases q : b ∈ M
  · rw [mask_in q, mask_in q]
  · rw [mask_out q, mask_out q, upd_ne (show b ≠ a from fun e => q (e ▸ h))]
/-- the object of an owned slot is changed -/
theorem ST.change (S : ST K C hid Γ ρ σ H) {i : Nat} (hi : i ∈ Γ) {o : HO} {d : D} (c : Cont (gx K C) (upd H (sa σ i) o) (mask H (Ms σ hid Γ)) (sa σ i) d) : ST K C hid Γ (ρ.set i (some d)) σ (upd H (sa σ i) o) := by
  have hM : sa σ i ∈ Ms σ hid Γ := mem_Ms.mpr (.inr ⟨i, hi, rfl⟩)
  have em := mask_updM (H := H) (o := o) hM
  have ne : ∀ b, b ∈ hid → b ≠ sa σ i := fun b hb e => S.dis i hi (e ▸ hb)
  have trk : ∀ a, H a ≠ none → upd H (sa σ i) o a ≠ none := fun a ha => by
    by_cases q : a = sa σ i
    · rw [q, upd_same]; simp
    · rw [upd_ne q]; exact ha
  have frm : HLe (mask C.H0 (C.hid ++ C.ioA)) (mask (upd H (sa σ i) o) (C.hid ++ C.ioA)) := by
    by_cases q : sa σ i ∈ C.hid ++ C.ioA
    · rw [mask_updM q]; exact S.frm
    · have h0 : C.H0 (sa σ i) = none := by
        rcases S.own i hi with z | z
        · exact absurd (List.mem_append_right _ z) q
        · exact z
      refine ⟨fun b u e n => ?_, fun b kv e => ?_, fun b kv e => ?_⟩
      · have hb : b ≠ sa σ i := ne_of_none (mask_some e).2 h0
        have := S.frm.o b u e n
        rw [mask_out (mask_some e).1] at this ⊢
        rw [upd_ne hb]; exact this
      · have hb : b ≠ sa σ i ∧ b ∉ C.hid ++ C.ioA := by
          rcases e with e | ⟨o, e⟩ <;> exact ⟨ne_of_none (mask_some e).2 h0, (mask_some e).1⟩
        rcases S.frm.k b kv e with r | ⟨u, r⟩
        · exact .inl (by rw [mask_out hb.2, upd_ne hb.1]; exact (mask_some r).2)
        · exact .inr ⟨u, by rw [mask_out hb.2, upd_ne hb.1]; exact (mask_some r).2⟩
      · have hb : b ≠ sa σ i ∧ b ∉ C.hid ++ C.ioA := by
          rcases e with e | ⟨o, e⟩ <;> exact ⟨ne_of_none (mask_some e).2 h0, (mask_some e).1⟩
        rcases S.frm.t b kv e with r | ⟨u, r⟩
        · exact .inl (by rw [mask_out hb.2, upd_ne hb.1]; exact (mask_some r).2)
        · exact .inr ⟨u, by rw [mask_out hb.2, upd_ne hb.1]; exact (mask_some r).2⟩
  have il : i < ρ.length := by
    obtain ⟨d0, e1, _, _⟩ := S.ow i hi
    exact (List.getElem?_eq_some_iff.mp e1).1
  refine ⟨by rw [List.length_set]; exact S.len, S.sub, fun a ha => (S.trk a ha).of (upd_ne (ne a ha)), S.tmp, S.nd, S.dis, S.own, frm, fun a ha => by rw [upd_ne (ne a (S.sub a ha))]; exact S.frh a ha, fun a ha => trk a (S.gro a ha), S.io, S.pin, fun j e hj ej => ?_, fun j hj => ?_⟩
  · have hji : j ≠ i := fun z => hj (z ▸ hi)
    rw [List.getElem?_set_ne (Ne.symm hji)] at ej
    rw [em]
    exact S.sl j e hj ej
  · rw [em]
    by_cases q : j = i
    · subst q
      obtain ⟨d0, _, e2, _⟩ := S.ow j hj
      exact ⟨d, List.getElem?_set_self il, e2, c⟩
    · obtain ⟨d0, e1, e2, c0⟩ := S.ow j hj
      refine ⟨d0, by rw [List.getElem?_set_ne (Ne.symm q)]; exact e1, e2, c0.mono (fun u z => ?_) (.refl _)⟩
      rw [upd_ne fun e => q (S.inj hj hi e)]; exact z
theorem ST.changeStp (S : ST K C hid Γ ρ σ H) {i : Nat} (hi : i ∈ Γ) {o : HO} : Stp (Ms σ hid Γ) (Ms σ hid Γ) hid H (upd H (sa σ i) o) :=
  ⟨by rw [mask_updM (mem_Ms.mpr (.inr ⟨i, hi, rfl⟩))]; exact .refl _, fun a ha => upd_ne fun e => S.dis i hi (e ▸ ha)⟩
theorem Ms_set {σ : L2.St} {hid : List Addr} {Γ : List Nat} {i : Nat} {v : Option V} (h : i ∉ Γ) : Ms (σ.set i v) hid Γ = Ms σ hid Γ := by
  unfold Ms
  rw [List.map_congr_left fun j hj => sa_set (nem h hj)]
theorem map_sa_set {σ : L2.St} {Γ : List Nat} {i : Nat} {v : Option V} (h : i ∉ Γ) : Γ.map (sa (σ.set i v)) = Γ.map (sa σ) :=
  List.map_congr_left fun j hj => sa_set (nem h hj)
/-- a slot that is not owned takes a value that is read alone -/
theorem ST.put (S : ST K C hid Γ ρ σ H) {i : Nat} (hi : i ∉ Γ) {d : D} {v : V} (r : RV (gx K C) (mask H (Ms σ hid Γ)) d v) (il : i < ρ.length) : ST K C hid Γ (ρ.set i (some d)) (σ.set i (some v)) H := by
  have ii : i ∉ C.io := fun z => hi (S.io i z)
  refine ⟨by rw [List.length_set, List.length_set]; exact S.len, S.sub, S.trk, S.tmp, by rw [map_sa_set hi]; exact S.nd, fun j hj => by rw [sa_set (nem hi hj)]; exact S.dis j hj, fun j hj => by rw [sa_set (nem hi hj)]; exact S.own j hj,
    S.frm, S.frh, S.gro, S.io, by rw [map_sa_set ii]; exact S.pin, fun j e hj ej => ?_, fun j hj => ?_⟩
  · rw [Ms_set hi]
    by_cases q : j = i
    · subst q
      rw [List.getElem?_set_self il] at ej
      cases ej
      exact ⟨v, List.getElem?_set_self (by rw [← S.len]; exact il), r⟩
    · rw [List.getElem?_set_ne (Ne.symm q)] at ej ⊢
      exact S.sl j e hj ej
  · have q : j ≠ i := nem hi hj
    rw [Ms_set hi, sa_set q, List.getElem?_set_ne (Ne.symm q), List.getElem?_set_ne (Ne.symm q)]
    exact S.ow j hj
/-- a slot takes a value that is owned -/
theorem ST.take {a : Addr} (S : ST K C (a :: hid) Γ ρ σ H) {i : Nat} (hi : i ∉ Γ) {d : D} (c : Cont (gx K C) H (mask H (Ms σ (a :: hid) Γ)) a d) (il : i < ρ.length) (ha : a ∉ hid) (hs : ∀ b ∈ C.hid, b ∈ hid) :
    ST K C hid (i :: Γ) (ρ.set i (some d)) (σ.set i (some (.ref a))) H := by
  have ii : i ∉ C.io := fun z => hi (S.io i z)
  have il' : i < σ.length := by rw [← S.len]; exact il
  have si : sa (σ.set i (some (.ref a))) i = a := sa_eq (List.getElem?_set_self il')
  have eM : ∀ b, b ∈ Ms (σ.set i (some (.ref a))) hid (i :: Γ) ↔ b ∈ Ms σ (a :: hid) Γ := fun b => by
    unfold Ms
    rw [List.map_cons, si, map_sa_set hi]
    simp only [List.mem_append, List.mem_cons]
    constructor
    · rintro (h | h | h)
      · exact .inl (.inr h)
      · exact .inl (.inl h)
      · exact .inr h
    · rintro ((h | h) | h)
      · exact .inr (.inl h)
      · exact .inl h
      · exact .inr (.inr h)
  have em : mask H (Ms (σ.set i (some (.ref a))) hid (i :: Γ)) = mask H (Ms σ (a :: hid) Γ) := mask_congr eM
  refine ⟨by rw [List.length_set, List.length_set]; exact S.len, hs, fun b hb => S.trk b (List.mem_cons_of_mem _ hb), fun b hb => S.tmp b (List.mem_cons_of_mem _ hb), ?_, fun j hj => ?_, fun j hj => ?_,
    S.frm, S.frh, S.gro, fun j hj => List.mem_cons_of_mem _ (S.io j hj), by rw [map_sa_set ii]; exact S.pin, fun j e hj ej => ?_, fun j hj => ?_⟩
  · rw [List.map_cons, si, map_sa_set hi, List.nodup_cons]
    refine ⟨fun z => ?_, S.nd⟩
    obtain ⟨k, hk, e⟩ := List.mem_map.mp z
    exact S.dis k hk (e ▸ List.mem_cons_self)
  · rcases List.mem_cons.mp hj with rfl | hj
    · rw [si]; exact ha
    · rw [sa_set (nem hi hj)]; exact fun z => S.dis j hj (List.mem_cons_of_mem _ z)
  · rcases List.mem_cons.mp hj with rfl | hj
    · rw [si]
      rcases S.tmp a List.mem_cons_self with z | z
      · exact absurd (hs a z) ha
      · exact .inr z
    · rw [sa_set (nem hi hj)]; exact S.own j hj
  · have q : j ≠ i := fun e => hj (e ▸ List.mem_cons_self)
    rw [List.getElem?_set_ne (Ne.symm q)] at ej ⊢
    rw [em]
    exact S.sl j e (fun z => hj (List.mem_cons_of_mem _ z)) ej
  · rw [em]
    rcases List.mem_cons.mp hj with rfl | hj
    · rw [si]
      exact ⟨d, List.getElem?_set_self il, List.getElem?_set_self il', c⟩
    · have q : j ≠ i := nem hi hj
      rw [sa_set q, List.getElem?_set_ne (Ne.symm q), List.getElem?_set_ne (Ne.symm q)]
      exact S.ow j hj
end
end Ip

namespace Ip
open PySem L2
/-! ## what is read of a value: its object in H, its items in Hm -/
inductive Shal (g : Gx) (H Hm : Hp) : D → V → Prop where
  | non : Shal g H Hm .non .non
  | bl (b : Bool) : Shal g H Hm (.bl b) (.bl b)
  | int (i : Int) : Shal g H Hm (.int i) (.int i)
  | str (x : Str) : Shal g H Hm (.str x) (.str x)
  | tup {a : Addr} {vs : List V} {ds : List D} : H a = some (.tup vs) → RVs g Hm ds vs → Hm a = some (.tup vs) → Shal g H Hm (.tup ds) (.ref a)
  | lst {a : Addr} {vs : List V} {ds : List D} : SqL g.K H a vs → RVs g Hm ds vs → Shal g H Hm (.lst ds) (.ref a)
  | dK {a : Addr} {ks : List Key} {vs : List V} {ds : List D} : Rd H a (.dK (ks.zip vs)) → ks.length = vs.length → RVs g Hm ds vs → Shal g H Hm (.dic (ks.map kD) ds) (.ref a)
  | dT {a : Addr} {ks : List (List Key)} {vs : List V} {ds : List D} : Rd H a (.dT (ks.zip vs)) → ks.length = vs.length → RVs g Hm ds vs → Shal g H Hm (.dit ks ds) (.ref a)
  | obj {a Cc dx : Addr} {c : Str} {ns : List Str} {vs : List V} {ds : List D} : H a = some (.ins Cc dx (ns.zip vs)) → g.ct c = some Cc → ns.length = vs.length → RVs g Hm ds vs → Shal g H Hm (.obj c ns ds) (.ref a)
theorem RV.shal {g : Gx} {H : Hp} {M : List Addr} {d : D} {v : V} (h : RV g (mask H M) d v) : Shal g H (mask H M) d v := by
  have s : HLe (mask H M) H := .of_same mask_same
  cases h with
  | non => exact .non
  | bl b => exact .bl b
  | int i => exact .int i
  | str x => exact .str x
  | tup h r => exact .tup (s.o _ _ h trivial) r h
  | lst h r => exact .lst (s.sqL h) r
  | dK h l r => exact .dK (s.k _ _ h) l r
  | dT h l r => exact .dT (s.t _ _ h) l r
  | obj h c l r => exact .obj (s.o _ _ h trivial) c l r
theorem Cont.shal {g : Gx} {H Hm : Hp} {a : Addr} {d : D} (h : Cont g H Hm a d) : Shal g H Hm d (.ref a) := by
  cases h with
  | lst h r => exact .lst (.of h) r
  | dK h l r => exact .dK (.inl h) l r
  | dT h l r => exact .dT (.inl h) l r
  | obj h c l r => exact .obj h c l r
theorem Shal.rv {g : Gx} {H : Hp} {M : List Addr} {d : D} {v : V} (h : Shal g H (mask H M) d v) : RV g H d v := by
  have s : HLe (mask H M) H := .of_same mask_same
  cases h with
  | non => exact .non
  | bl b => exact .bl b
  | int i => exact .int i
  | str x => exact .str x
  | tup h r => exact .tup h (r.mono s)
  | lst h r => exact .lst h (r.mono s)
  | dK h l r => exact .dK h l (r.mono s)
  | dT h l r => exact .dT h l (r.mono s)
  | obj h c l r => exact .obj h c l (r.mono s)
theorem Val.shal {g : Gx} {H H' : Hp} {M M' tm hid : List Addr} {b : Bool} {d : D} {v : V} (h : Val g H M b d v tm) (s : Stp M M' (tm ++ hid) H H') : Shal g H' (mask H' M') d v := by
  cases h with
  | fz r _ => exact (r.mono s.le).shal
  | fr c => exact (c.mono (fun o e => (s.fx _ (by simp)).trans e) s.le).shal
theorem Val.shal0 {g : Gx} {H : Hp} {M tm : List Addr} {b : Bool} {d : D} {v : V} (h : Val g H M b d v tm) : Shal g H (mask H M) d v := h.shal (hid := []) (Stp.refl _ _ _)
/-- a value is let go: it is read alone from now on -/
theorem Val.rv {g : Gx} {H : Hp} {M M' tm : List Addr} {b : Bool} {d : D} {v : V} (h : Val g H M b d v tm) (s : ∀ a ∈ M', a ∈ M) (ht : ∀ a ∈ tm, a ∉ M') : RV g (mask H M') d v := by
  cases h with
  | fz r _ => exact r.mono (.of_same (mask_sub s))
  | fr c => exact c.rv (mask_out (ht _ (by simp))) (.of_same (mask_sub s))

/-! ## exceptions -/
def ExR (g : Gx) (H Hm : Hp) (e : Ex) (cls : Value) (od : Option Addr) : Prop :=
  ∃ Cc, g.ct e.cls = some Cc ∧ cls = .ref Cc ∧ match e.fld with
    | none => od = none
    | some d => ∃ dd f v, od = some dd ∧ H dd = some (.xd [(f, v)]) ∧ RV g Hm d v

/-! ## judgements -/
section
variable (K : PySem.W.Frag) (C : Ac) (W : WX)
def PostE (Γ Γ' : List Nat) (fr : Bool) (hid : List Addr) (σ : L2.St) (H : Hp) (Q : VK) : R D → Prop
  | .ok d ρ' => ∀ v H' tm, ST K C (tm ++ hid) Γ' ρ' σ H' → Stp (Ms σ hid Γ) (Ms σ (tm ++ hid) Γ') hid H H' → Val (gx K C) H' (Ms σ (tm ++ hid) Γ') fr d v tm → (∀ a ∈ tm, a ∉ Ms σ hid Γ') → Q v H'
  | .exn e ρ' => ∀ cls od H', ExR (gx K C) H' (mask H' (Ms σ C.hid C.io)) e cls od → ST K C C.hid C.io ρ' σ H' → W cls od σ H'
  | .bad => False
def tE (Γ Γ' : List Nat) (fr : Bool) (f : Env → R D) : TE := fun σ H Q => ∃ hid ρ, ST K C hid Γ ρ σ H ∧ PostE K C W Γ Γ' fr hid σ H Q (f ρ)
def PostT (Γ Γ' : List Nat) (hid : List Addr) (σ : L2.St) (H : Hp) (Q : Bool → Hp → Prop) : R Bool → Prop
  | .ok b ρ' => ∀ H', ST K C hid Γ' ρ' σ H' → Stp (Ms σ hid Γ) (Ms σ hid Γ') hid H H' → Q b H'
  | .exn e ρ' => ∀ cls od H', ExR (gx K C) H' (mask H' (Ms σ C.hid C.io)) e cls od → ST K C C.hid C.io ρ' σ H' → W cls od σ H'
  | .bad => False
def tT (Γ Γ' : List Nat) (f : Env → R Bool) : TT := fun σ H Q => ∃ hid ρ, ST K C hid Γ ρ σ H ∧ PostT K C W Γ Γ' hid σ H Q (f ρ)
def PostS (Γ Γ' Γb : List Nat) (fr : Bool) (Dn : Ends) (σ : L2.St) (H : Hp) : R Fl → Prop
  | .ok .nx ρ' => ∀ σ' H', ST K C C.hid Γ' ρ' σ' H' → Stp (Ms σ C.hid Γ) (Ms σ' C.hid Γ') C.hid H H' → Dn.nx σ' H'
  | .ok .bk ρ' => ∀ σ' H', ST K C C.hid Γb ρ' σ' H' → Stp (Ms σ C.hid Γ) (Ms σ' C.hid Γb) C.hid H H' → Dn.bk σ' H'
  | .ok .ct ρ' => ∀ σ' H', ST K C C.hid Γb ρ' σ' H' → Stp (Ms σ C.hid Γ) (Ms σ' C.hid Γb) C.hid H H' → Dn.ct σ' H'
  | .ok (.rt d) ρ' => ∀ v σ' H' tm, ST K C (tm ++ C.hid) C.io ρ' σ' H' → Val (gx K C) H' (Ms σ' (tm ++ C.hid) C.io) fr d v tm → (∀ a ∈ tm, a ∉ Ms σ' C.hid C.io) → Dn.rt v H'
  | .exn e ρ' => ∀ cls od σ' H', ExR (gx K C) H' (mask H' (Ms σ' C.hid C.io)) e cls od → ST K C C.hid C.io ρ' σ' H' → W cls od σ' H'
  | .bad => False
def tS (Γ Γ' Γb : List Nat) (fr : Bool) (f : Env → R Fl) : TS := fun Dn σ H => ∃ ρ, ST K C C.hid Γ ρ σ H ∧ PostS K C W Γ Γ' Γb fr Dn σ H (f ρ)
end
end Ip
namespace Ip
open PySem L2

structure SE (X : Cx) (C : Ac) (W : WX) (Γ : List Nat) (e : Expr) (Γ' : List Nat) (fr : Bool) (f : Env → R D) : Prop where
  pe : PE X e (tE X.K C W Γ Γ' fr f)
structure SP (X : Cx) (C : Ac) (W : WX) (Γ : List Nat) (e : Expr) (Γ' : List Nat) (f : Env → R Bool) : Prop where
  pt : PT X e (tT X.K C W Γ Γ' f)
structure SW (X : Cx) (C : Ac) (W : WX) (Γ : List Nat) (e : Expr) (Γ' : List Nat) (f : Env → R Bool) : Prop where
  pw : PW X e (tT X.K C W Γ Γ' f)
structure SS (X : Cx) (C : Ac) (W : WX) (Γ : List Nat) (st : Stmt) (Γ' Γb : List Nat) (fr : Bool) (f : Env → R Fl) : Prop where
  ps : PS X st (tS X.K C W Γ Γ' Γb fr f)
structure SSs (X : Cx) (C : Ac) (W : WX) (Γ : List Nat) (st : List Stmt) (Γ' Γb : List Nat) (fr : Bool) (f : Env → R Fl) : Prop where
  ps : PSs X st (tS X.K C W Γ Γ' Γb fr f)

theorem peImp {X : Cx} {e : Expr} {t t' : TE} (h : PE X e t) (i : ∀ σ H Q, t' σ H Q → t σ H Q) : PE X e t' := ⟨fun pins s σ H Q I q => h.run pins s σ H Q I (i σ H Q q)⟩
theorem ptImp {X : Cx} {e : Expr} {t t' : TT} (h : PT X e t) (i : ∀ σ H Q, t' σ H Q → t σ H Q) : PT X e t' := ⟨fun pins s σ H Q I q => h.run pins s σ H Q I (i σ H Q q)⟩
theorem pwImp {X : Cx} {e : Expr} {t t' : TT} (h : PW X e t) (i : ∀ σ H Q, t' σ H Q → t σ H Q) : PW X e t' := ⟨fun wh pins s σ H Q I q => h.run wh pins s σ H Q I (i σ H Q q)⟩
theorem paImp {X : Cx} {e : List Expr} {t t' : TA} (h : PA X e t) (i : ∀ σ H Q, t' σ H Q → t σ H Q) : PA X e t' := ⟨fun pos pins s σ H Q I q => h.run pos pins s σ H Q I (i σ H Q q)⟩
theorem psImp {X : Cx} {e : Stmt} {t t' : TS} (h : PS X e t) (i : ∀ Dn σ H, t' Dn σ H → t Dn σ H) : PS X e t' := ⟨fun pins s σ H Q I q => h.run pins s σ H Q I (i Q σ H q)⟩
theorem pssImp {X : Cx} {e : List Stmt} {t t' : TS} (h : PSs X e t) (i : ∀ Dn σ H, t' Dn σ H → t Dn σ H) : PSs X e t' := ⟨fun pins s σ H Q I q => h.run pins s σ H Q I (i Q σ H q)⟩

/-! ## the semantics: small words -/
def R.bind {α β : Type} : R α → (α → Env → R β) → R β
  | .ok a ρ, k => k a ρ
  | .exn e ρ, _ => .exn e ρ
  | .bad, _ => .bad
def ofO {α : Type} (ρ : Env) : Option α → R α
  | some a => .ok a ρ
  | none => .bad
def mVar (i : Nat) : Env → R D := fun ρ => ofO ρ (ρ.getD i none)
def mC (d : D) : Env → R D := fun ρ => .ok d ρ
def mBin (op : D → D → Option D) (f h : Env → R D) : Env → R D := fun ρ => (f ρ).bind fun a ρ1 => (h ρ1).bind fun b ρ2 => ofO ρ2 (op a b)
def mUn (op : D → Option D) (f : Env → R D) : Env → R D := fun ρ => (f ρ).bind fun a ρ1 => ofO ρ1 (op a)

theorem getD_some {ρ : Env} {i : Nat} {d : D} (h : ρ.getD i none = some d) : ρ[i]? = some (some d) := by
  rw [List.getD_eq_getElem?_getD] at h
  cases q : ρ[i]? with
  | none => rw [q] at h; cases h
  | some o => rw [q] at h; exact congrArg some h

/-- which slots stay owned -/
def okG (io Γ' Γ : List Nat) : Bool := Γ'.all (fun i => Γ.contains i) && decide Γ'.Nodup && io.all fun i => Γ'.contains i
theorem okG_of {io Γ' Γ : List Nat} (h : okG io Γ' Γ = true) : (∀ i ∈ Γ', i ∈ Γ) ∧ Γ'.Nodup ∧ ∀ i ∈ io, i ∈ Γ' := by
  simp only [okG, Bool.and_eq_true, List.all_eq_true, List.contains_iff_mem, decide_eq_true_eq] at h
  exact ⟨h.1.1, h.1.2, h.2⟩

section
variable {X : Cx} {C : Ac} {W : WX} {Γ Γ1 Γ2 Γ' : List Nat} {fr fr1 fr2 : Bool} {f h : Env → R D} {e a b : Expr} {pos : Pos}

theorem valImm {g : Gx} {H : Hp} {M : List Addr} {d : D} {v : V} (r : RV g (mask H M) d v) (hv : ∀ a, v ≠ .ref a) : Val g H M fr d v [] := .fz r fun _ => hv
/-- a frozen value, no object's -/
theorem se_imm {d : D} {v : V} (hp : PE X e (tC v)) (hr : ∀ A, RV ⟨X.K, C.ct⟩ A d v) (hv : ∀ a, v ≠ .ref a) : SE X C W Γ e Γ fr (mC d) := ⟨peImp hp fun σ H Q ⟨hid, ρ, S, p⟩ =>
  p v H [] S (Stp.refl _ _ _) (.fz (hr _) fun _ => hv) fun _ z => nomatch z⟩
theorem se_int {i : Int} {j : Nat} : SE X C W Γ (.Constant (.int i) j pos) Γ fr (mC (.int i)) := se_imm pe_int (fun _ => .int i) (fun _ z => nomatch z)
theorem se_bl {i : Bool} {j : Nat} : SE X C W Γ (.Constant (.bool i) j pos) Γ fr (mC (.bl i)) := se_imm pe_bl (fun _ => .bl i) (fun _ z => nomatch z)
theorem se_str {i : Str} {j : Nat} : SE X C W Γ (.Constant (.str i) j pos) Γ fr (mC (.str i)) := se_imm pe_str (fun _ => .str i) (fun _ z => nomatch z)
theorem se_non {j : Nat} : SE X C W Γ (.Constant .none j pos) Γ fr (mC .non) := se_imm pe_non (fun _ => .non) (fun _ z => nomatch z)

/-- a name that is read alone -/
theorem se_var (i : Nat) {x : Str} (hN : X.N[i]? = some x := by rfl) (hv : Vis X.env.scope x := by first | exact Or.inl rfl | exact Or.inr (Or.inl rfl) | exact Or.inr (Or.inr rfl)) (hΓ : Γ.contains i = false := by rfl)
    (hd : (x == ("__debug__" : Str)) = false := by decide) (hcd : (x == ("__classdict__" : Str)) = false := by decide) : SE X C W Γ (.Name x pos) Γ false (mVar i) := ⟨peImp (pe_var hN hv hd hcd) fun σ H Q ⟨hid, ρ, S, p⟩ => by
  unfold mVar at p
  cases q : ρ.getD i none with
  | none => rw [q] at p; exact p.elim
  | some d =>
    rw [q] at p
    have hi : i ∉ Γ := fun z => by rw [List.contains_iff_mem.mpr z] at hΓ; cases hΓ
    obtain ⟨v, e, r⟩ := S.sl i d hi (getD_some q)
    exact ⟨v, e, p v H [] S (Stp.refl _ _ _) (.fz r fun z => nomatch z) fun _ z => nomatch z⟩⟩
/-- an owned name, let go -/
theorem se_varF (i : Nat) (Γ' : List Nat) {x : Str} (hN : X.N[i]? = some x := by rfl) (hv : Vis X.env.scope x := by first | exact Or.inl rfl | exact Or.inr (Or.inl rfl) | exact Or.inr (Or.inr rfl)) (hΓ : okG C.io Γ' Γ = true := by rfl) (hi' : Γ'.contains i = false := by rfl)
    (hd : (x == ("__debug__" : Str)) = false := by decide) (hcd : (x == ("__classdict__" : Str)) = false := by decide) : SE X C W Γ (.Name x pos) Γ' false (mVar i) := ⟨peImp (pe_var hN hv hd hcd) fun σ H Q ⟨hid, ρ, S, p⟩ => by
  unfold mVar at p
  cases q : ρ.getD i none with
  | none => rw [q] at p; exact p.elim
  | some d =>
    rw [q] at p
    obtain ⟨h1, h2, h3⟩ := okG_of hΓ
    have hi : i ∉ Γ' := fun z => by rw [List.contains_iff_mem.mpr z] at hi'; cases hi'
    have S' := S.weak h1 h2 h3
    obtain ⟨v, e, r⟩ := S'.sl i d hi (getD_some q)
    exact ⟨v, e, p v H [] S' ⟨.of_same (mask_sub (Ms_sub h1)), fun _ _ => rfl⟩ (.fz r fun z => nomatch z) fun _ z => nomatch z⟩⟩
/-- a fresh value, let go -/
theorem se_fz (h : SE X C W Γ e Γ' fr f) : SE X C W Γ e Γ' false f := ⟨peImp h.pe fun σ H Q ⟨hid, ρ, S, p⟩ => by
  refine ⟨hid, ρ, S, ?_⟩
  cases q : f ρ with
  | bad => rw [q] at p; exact p
  | exn e ρ' => rw [q] at p; exact p
  | ok d ρ' =>
    rw [q] at p
    intro v H' tm S' k va ht
    have sub : ∀ a ∈ Ms σ hid Γ', a ∈ Ms σ (tm ++ hid) Γ' := Ms_subH fun a ha => List.mem_append_right _ ha
    exact p v H' [] (S'.forget (fun a ha => List.mem_append_right _ ha) S.sub) ⟨k.le.trans (.of_same (mask_sub sub)), k.fx⟩ (.fz (va.rv sub ht) fun z => nomatch z) fun _ z => nomatch z⟩

/-! ## what is kept while others are reckoned -/
/-- d stands at v: read alone, or a temporary's -/
def Kept (g : Gx) (H : Hp) (M tm : List Addr) (d : D) (v : V) : Prop := RV g (mask H M) d v ∨ ∃ a ∈ tm, v = .ref a ∧ Cont g H (mask H M) a d
theorem Kept.of {g : Gx} {H : Hp} {M tm : List Addr} {d : D} {v : V} {b : Bool} (h : Val g H M b d v tm) : Kept g H M tm d v := by
  cases h with
  | fz r _ => exact .inl r
  | fr c => exact .inr ⟨_, by simp, rfl, c⟩
theorem Kept.stp {g : Gx} {H H' : Hp} {M M' tm tm' hid : List Addr} {d : D} {v : V} (h : Kept g H M tm d v) (s : Stp M M' (tm ++ hid) H H') (hs : ∀ a ∈ tm, a ∈ tm') : Kept g H' M' tm' d v := by
  rcases h with r | ⟨a, ha, rfl, c⟩
  · exact .inl (r.mono s.le)
  · exact .inr ⟨a, hs a ha, rfl, c.mono (fun o e => (s.fx a (List.mem_append_left _ ha)).trans e) s.le⟩
theorem Kept.shal {g : Gx} {H : Hp} {M tm : List Addr} {d : D} {v : V} (h : Kept g H M tm d v) : Shal g H (mask H M) d v := by
  rcases h with r | ⟨a, _, rfl, c⟩
  · exact r.shal
  · exact c.shal
theorem Kept.rv {g : Gx} {H : Hp} {M M' tm : List Addr} {d : D} {v : V} (h : Kept g H M tm d v) (s : ∀ a ∈ M', a ∈ M) (ht : ∀ a ∈ tm, a ∉ M') : RV g (mask H M') d v := by
  rcases h with r | ⟨a, ha, rfl, c⟩
  · exact r.mono (.of_same (mask_sub s))
  · exact c.rv (mask_out (ht a ha)) (.of_same (mask_sub s))

/-- two in a row -/
theorem two {σ : L2.St} {H : Hp} {hid : List Addr} {ρ : Env} {Rr : V → V → Hp → Prop} (S : ST X.K C hid Γ ρ σ H)
    (ok : ∀ d1 ρ1 d2 ρ2, f ρ = .ok d1 ρ1 → h ρ1 = .ok d2 ρ2 → ∀ x y H2 tm, ST X.K C (tm ++ hid) Γ2 ρ2 σ H2 → Stp (Ms σ hid Γ) (Ms σ (tm ++ hid) Γ2) hid H H2 → (∀ a ∈ tm, a ∉ Ms σ hid Γ2) →
      Kept (gx X.K C) H2 (Ms σ (tm ++ hid) Γ2) tm d1 x → Kept (gx X.K C) H2 (Ms σ (tm ++ hid) Γ2) tm d2 y → Rr x y H2)
    (b1 : f ρ ≠ .bad) (b2 : ∀ d1 ρ1, f ρ = .ok d1 ρ1 → h ρ1 ≠ .bad)
    (x1 : ∀ e ρ', f ρ = .exn e ρ' → ∀ cls od H', ExR (gx X.K C) H' (mask H' (Ms σ C.hid C.io)) e cls od → ST X.K C C.hid C.io ρ' σ H' → W cls od σ H')
    (x2 : ∀ d1 ρ1 e ρ', f ρ = .ok d1 ρ1 → h ρ1 = .exn e ρ' → ∀ cls od H', ExR (gx X.K C) H' (mask H' (Ms σ C.hid C.io)) e cls od → ST X.K C C.hid C.io ρ' σ H' → W cls od σ H') :
    tE X.K C W Γ Γ1 fr1 f σ H fun x H1 => tE X.K C W Γ1 Γ2 fr2 h σ H1 fun y H2 => Rr x y H2 := by
  refine ⟨hid, ρ, S, ?_⟩
  cases q : f ρ with
  | bad => exact absurd q b1
  | exn e ρ' => exact x1 e ρ' q
  | ok d1 ρ1 =>
    intro x H1 tm1 S1 k1 v1 t1
    refine ⟨tm1 ++ hid, ρ1, S1, ?_⟩
    cases q2 : h ρ1 with
    | bad => exact absurd q2 (b2 _ _ q)
    | exn e ρ' => exact x2 _ _ e ρ' q q2
    | ok d2 ρ2 =>
      intro y H2 tm2 S2 k2 v2 t2
      have e : tm2 ++ (tm1 ++ hid) = (tm2 ++ tm1) ++ hid := (List.append_assoc ..).symm
      rw [e] at S2 k2 v2
      refine ok d1 ρ1 d2 ρ2 q q2 x y H2 (tm2 ++ tm1) S2 (k1.trans k2 fun a ha => List.mem_append_right _ ha) (fun a ha z => ?_) ((Kept.of v1).stp k2 fun a ha => List.mem_append_right _ ha) ?_
      · rcases List.mem_append.mp ha with ha | ha
        · exact t2 a ha (Ms_subH (fun b hb => List.mem_append_right _ hb) a z)
        · rcases mem_Ms.mp z with z | ⟨i, hi, rfl⟩
          · exact t1 a ha (mem_Ms.mpr (.inl z))
          · exact S2.dis i hi (List.mem_append_left _ (List.mem_append_right _ ha))
      · rcases Kept.of v2 with r | ⟨a, ha, r⟩
        · exact .inl r
        · exact .inr ⟨a, List.mem_append_left _ ha, r⟩

/-- temporaries are let go, new objects have come -/
theorem ST.fin {K : PySem.W.Frag} {hid tm : List Addr} {ρ : Env} {σ : L2.St} {H : Hp} (S : ST K C (tm ++ hid) Γ ρ σ H) (hs : ∀ a ∈ C.hid, a ∈ hid) {H' : Hp} (s : Same H H') : ST K C hid Γ ρ σ H' :=
  (S.same s).forget (fun a ha => List.mem_append_right _ ha) hs
theorem Stp.fin {hid tm M : List Addr} {σ : L2.St} {H0 H H' : Hp} (k : Stp M (Ms σ (tm ++ hid) Γ) hid H0 H) (s : Same H H') (trk : ∀ a ∈ hid, H a ≠ none) : Stp M (Ms σ hid Γ) hid H0 H' :=
  ⟨k.le.trans ((HLe.of_same (mask_sub (Ms_subH fun a ha => List.mem_append_right _ ha))).trans (.of_same (mask_keep fun b o _ e => s b o e))), fun a ha => by
    have := k.fx a ha
    rw [← this]
    cases q : H a with
    | none => exact absurd q (trk a ha)
    | some o => exact s a o q⟩

/-- an operation on two values: what its reading asks, from data -/
def OpS (g : Gx) (r : R2) (op : D → D → Option D) : Prop := ∀ (H : Hp) (M : List Addr) (x y : V) (dx dy d : D) (Q : VK), (∀ a ∈ M, H a ≠ none) → Shal g H (mask H M) dx x → Shal g H (mask H M) dy y → op dx dy = some d →
  (∀ v H', Same H H' → RV g (mask H' M) d v → Q v H') → r x y H Q
theorem ofO_ok {α : Type} {ρ ρ' : Env} {o : Option α} {a : α} (h : ofO ρ o = .ok a ρ') : o = some a ∧ ρ = ρ' := by
  cases o with
  | none => exact nomatch h
  | some b => cases h; exact ⟨rfl, rfl⟩
/-- the frame of all rules of two expressions -/
theorem mBin_tE {op : D → D → Option D} {r : R2} (ho : OpS ⟨X.K, C.ct⟩ r op) {σ : L2.St} {H : Hp} {Q : VK} (p : tE X.K C W Γ Γ2 false (mBin op f h) σ H Q) :
    tE X.K C W Γ Γ1 fr1 f σ H fun x H1 => tE X.K C W Γ1 Γ2 fr2 h σ H1 fun y H2 => r x y H2 Q := by
  obtain ⟨hid, ρ, S, p⟩ := p
  unfold mBin at p
  refine two (fr1 := fr1) (fr2 := fr2) S (fun d1 ρ1 d2 ρ2 q1 q2 x y H2 tm S2 k2 t2 v1 v2 => ?_) (fun q => ?_) (fun d1 ρ1 q1 q2 => ?_) (fun e ρ' q => ?_) fun d1 ρ1 e ρ' q1 q2 => ?_
  · rw [q1] at p
    dsimp only [R.bind] at p
    rw [q2] at p
    dsimp only [R.bind] at p
    cases q3 : op d1 d2 with
    | none => rw [q3] at p; exact p.elim
    | some d =>
      rw [q3] at p
      refine ho H2 (Ms σ (tm ++ hid) Γ2) x y d1 d2 d Q S2.trkM v1.shal v2.shal q3 fun v H' s rv => ?_
      exact p v H' [] (S2.fin S.sub s) (k2.fin s fun a ha => (S2.trk a (List.mem_append_right _ ha)).1) (.fz (rv.mono (.of_same (mask_sub (Ms_subH fun a ha => List.mem_append_right _ ha)))) fun z => nomatch z) fun _ z => nomatch z
  · rw [q] at p; exact p
  · rw [q1] at p
    dsimp only [R.bind] at p
    rw [q2] at p; exact p
  · rw [q] at p; exact p
  · rw [q1] at p
    dsimp only [R.bind] at p
    rw [q2] at p; exact p
theorem se_bin {op : Operator} {r : R2} {opD : D → D → Option D} (ho : OpR X (binaryOp op) r) (hs : OpS ⟨X.K, C.ct⟩ r opD) (ha : SE X C W Γ a Γ1 fr1 f) (hb : SE X C W Γ1 b Γ2 fr2 h) : SE X C W Γ (.BinOp a op b pos) Γ2 false (mBin opD f h) :=
  ⟨peImp (pe_op ho ha.pe hb.pe) fun _ _ _ p => mBin_tE hs p⟩
theorem se_cmp {op : CmpOp} {r : R2} {opD : D → D → Option D} (ho : OpR X (compareOp op) r) (hs : OpS ⟨X.K, C.ct⟩ r opD) (ha : SE X C W Γ a Γ1 fr1 f) (hb : SE X C W Γ1 b Γ2 fr2 h) (hm : behindInMarks op b = false) : SE X C W Γ (.Compare a [op] [b] pos) Γ2 false (mBin opD f h) :=
  ⟨peImp (pe_cmpR ho ha.pe hb.pe hm) fun _ _ _ p => mBin_tE hs p⟩
theorem se_ix {r : R2} {opD : D → D → Option D} (ho : IxR X r) (hs : OpS ⟨X.K, C.ct⟩ r opD) (ha : SE X C W Γ a Γ1 fr1 f) (hb : SE X C W Γ1 b Γ2 fr2 h) (hm : PlainIx b) : SE X C W Γ (.Subscript a b pos) Γ2 false (mBin opD f h) :=
  ⟨peImp (pe_ix ho ha.pe hb.pe hm) fun _ _ _ p => mBin_tE hs p⟩
end
end Ip
namespace Ip
open PySem L2

/-! ## tests -/
def asB : D → Option Bool
  | .bl b => some b
  | _ => none
def mTest (f : Env → R D) : Env → R Bool := fun ρ => (f ρ).bind fun d ρ' => ofO ρ' (asB d)
def mNot (f : Env → R Bool) : Env → R Bool := fun ρ => (f ρ).bind fun b ρ' => .ok (!b) ρ'
def mAnd (f g : Env → R Bool) : Env → R Bool := fun ρ => (f ρ).bind fun b ρ' => if b then g ρ' else .ok false ρ'
def mOr (f g : Env → R Bool) : Env → R Bool := fun ρ => (f ρ).bind fun b ρ' => if b then .ok true ρ' else g ρ'
def mAndV (f g : Env → R D) : Env → R D := fun ρ => (f ρ).bind fun d ρ' => match d with
  | .bl true => g ρ'
  | .bl false => .ok (.bl false) ρ'
  | _ => .bad
def mOrV (f g : Env → R D) : Env → R D := fun ρ => (f ρ).bind fun d ρ' => match d with
  | .bl true => .ok (.bl true) ρ'
  | .bl false => g ρ'
  | _ => .bad
def mNotV (f : Env → R D) : Env → R D := fun ρ => (f ρ).bind fun d ρ' => match d with
  | .bl b => .ok (.bl (!b)) ρ'
  | _ => .bad
def mIf (c : Env → R Bool) (f g : Env → R D) : Env → R D := fun ρ => (c ρ).bind fun b ρ' => if b then f ρ' else g ρ'

theorem val_bl {g : Gx} {H : Hp} {M tm : List Addr} {fr b : Bool} {v : V} (h : Val g H M fr (.bl b) v tm) : v = .bl b ∧ tm = [] := by
  cases h with
  | fz r _ => cases r; exact ⟨rfl, rfl⟩
  | fr c => cases c
section
variable {X : Cx} {C : Ac} {W : WX} {Γ Γ1 Γ2 Γ' : List Nat} {fr fr1 fr2 : Bool} {f h : Env → R D} {fb hb' : Env → R Bool} {e a b c : Expr} {pos : Pos} {rest : List Expr}

theorem tT_tE {σ : L2.St} {H : Hp} {Q : Bool → Hp → Prop} (p : tT X.K C W Γ Γ' (mTest f) σ H Q) : tE X.K C W Γ Γ' fr f σ H fun x H' => ∃ k, x = .bl k ∧ Q k H' := by
  obtain ⟨hid, ρ, S, p⟩ := p
  refine ⟨hid, ρ, S, ?_⟩
  unfold mTest at p
  cases q : f ρ with
  | bad => rw [q] at p; exact p
  | exn e ρ' => rw [q] at p; exact p
  | ok d ρ' =>
    rw [q] at p
    intro v H' tm S' k va ht
    dsimp only [R.bind] at p
    cases d with
    | bl b =>
      obtain ⟨rfl, rfl⟩ := val_bl va
      exact ⟨b, rfl, p H' S' k⟩
    | _ => exact (show False from p).elim
theorem sp_val (ha : SE X C W Γ e Γ' fr f) (he : ∀ whole, isTrue e X.env whole = (do let v ← whole; standAt e.pos; holding [v] (truthy v)) := by intro _; rfl) : SP X C W Γ e Γ' (mTest f) :=
  ⟨ptImp (pt_val ha.pe he) fun _ _ _ p => tT_tE p⟩
theorem sp_cmp {op : CmpOp} {r : R2} {opD : D → D → Option D} (ho : OpR X (compareOp op) r) (hs : OpS ⟨X.K, C.ct⟩ r opD) (ha : SE X C W Γ a Γ1 fr1 f) (hb : SE X C W Γ1 b Γ2 fr2 h) (hm : behindInMarks op b = false) : SP X C W Γ (.Compare a [op] [b] pos) Γ2 (mTest (mBin opD f h)) :=
  ⟨ptImp (pt_cmpR ho ha.pe hb.pe hm) fun _ _ _ p => mBin_tE hs (tT_tE p)⟩
theorem sp_not (ha : SP X C W Γ a Γ' fb) : SP X C W Γ (.UnaryOp .Not a pos) Γ' (mNot fb) := ⟨ptImp (pt_not ha.pt) fun σ H Q ⟨hid, ρ, S, p⟩ => by
  refine ⟨hid, ρ, S, ?_⟩
  unfold mNot at p
  cases q : fb ρ with
  | bad => rw [q] at p; exact p
  | exn e ρ' => rw [q] at p; exact p
  | ok b ρ' => rw [q] at p; exact p⟩
theorem SW.pt (h : SW X C W Γ e Γ' fb) : SP X C W Γ e Γ' fb := ⟨h.pw.pt⟩
theorem sw_and1 (ha : SP X C W Γ a Γ' fb) : SW X C W Γ (.BoolOp .And [a] pos) Γ' fb := ⟨pw_and1 ha.pt⟩
theorem sw_or1 (ha : SP X C W Γ a Γ' fb) : SW X C W Γ (.BoolOp .Or [a] pos) Γ' fb := ⟨pw_or1 ha.pt⟩
theorem ST.weakStp {K : PySem.W.Frag} {hid : List Addr} {σ : L2.St} {H H' : Hp} {M : List Addr} (k : Stp M (Ms σ hid Γ) hid H H') (h : ∀ i ∈ Γ', i ∈ Γ) : Stp M (Ms σ hid Γ') hid H H' := ⟨k.le.trans (.of_same (mask_sub (Ms_sub h))), k.fx⟩
theorem sw_and (ha : SP X C W Γ a Γ1 fb) (hb : SW X C W Γ1 (.BoolOp .And (b :: rest) pos) Γ2 hb') (hk : okG C.io Γ2 Γ1 = true := by rfl) : SW X C W Γ (.BoolOp .And (a :: b :: rest) pos) Γ2 (mAnd fb hb') :=
  ⟨pwImp (pw_and ha.pt hb.pw) fun σ H Q ⟨hid, ρ, S, p⟩ => by
  refine ⟨hid, ρ, S, ?_⟩
  unfold mAnd at p
  cases q : fb ρ with
  | bad => rw [q] at p; exact p
  | exn e ρ' => rw [q] at p; exact p
  | ok b ρ' =>
    rw [q] at p
    intro H1 S1 k1
    dsimp only [R.bind] at p
    cases b with
    | false =>
      obtain ⟨h1, h2, h3⟩ := okG_of hk
      rw [if_neg Bool.false_ne_true] at p ⊢
      exact p H1 (S1.weak h1 h2 h3) (ST.weakStp (K := X.K) k1 h1)
    | true =>
      rw [if_pos rfl] at p ⊢
      refine ⟨hid, ρ', S1, ?_⟩
      cases q2 : hb' ρ' with
      | bad => rw [q2] at p; exact p
      | exn e ρ' => rw [q2] at p; exact p
      | ok b ρ2 =>
        rw [q2] at p
        exact fun H2 S2 k2 => p H2 S2 (k1.trans k2 fun _ z => z)⟩
theorem sw_or (ha : SP X C W Γ a Γ1 fb) (hb : SW X C W Γ1 (.BoolOp .Or (b :: rest) pos) Γ2 hb') (hk : okG C.io Γ2 Γ1 = true := by rfl) : SW X C W Γ (.BoolOp .Or (a :: b :: rest) pos) Γ2 (mOr fb hb') :=
  ⟨pwImp (pw_or ha.pt hb.pw) fun σ H Q ⟨hid, ρ, S, p⟩ => by
  refine ⟨hid, ρ, S, ?_⟩
  unfold mOr at p
  cases q : fb ρ with
  | bad => rw [q] at p; exact p
  | exn e ρ' => rw [q] at p; exact p
  | ok b ρ' =>
    rw [q] at p
    intro H1 S1 k1
    dsimp only [R.bind] at p
    cases b with
    | true =>
      obtain ⟨h1, h2, h3⟩ := okG_of hk
      rw [if_pos rfl] at p ⊢
      exact p H1 (S1.weak h1 h2 h3) (ST.weakStp (K := X.K) k1 h1)
    | false =>
      rw [if_neg Bool.false_ne_true] at p ⊢
      refine ⟨hid, ρ', S1, ?_⟩
      cases q2 : hb' ρ' with
      | bad => rw [q2] at p; exact p
      | exn e ρ' => rw [q2] at p; exact p
      | ok b ρ2 =>
        rw [q2] at p
        exact fun H2 S2 k2 => p H2 S2 (k1.trans k2 fun _ z => z)⟩
/-- a second expression behind a value that has no object -/
theorem PostE.pre {hid : List Addr} {σ : L2.St} {H H1 : Hp} {Q : VK} {r : R D} (k : Stp (Ms σ hid Γ) (Ms σ hid Γ1) hid H H1) (p : PostE X.K C W Γ Γ2 fr hid σ H Q r) : PostE X.K C W Γ1 Γ2 fr hid σ H1 Q r := by
  cases r with
  | bad => exact p
  | exn e ρ => exact p
  | ok d ρ => exact fun v H' tm S' k' va ht => p v H' tm S' (k.trans k' fun _ z => z) va ht
theorem se_and (ha : SE X C W Γ a Γ1 fr1 f) (hb : SE X C W Γ1 (.BoolOp .And (b :: rest) pos) Γ2 fr h) (hk : okG C.io Γ2 Γ1 = true := by rfl) : SE X C W Γ (.BoolOp .And (a :: b :: rest) pos) Γ2 fr (mAndV f h) :=
  ⟨peImp (pe_and ha.pe hb.pe) fun σ H Q ⟨hid, ρ, S, p⟩ => by
  refine ⟨hid, ρ, S, ?_⟩
  unfold mAndV at p
  cases q : f ρ with
  | bad => rw [q] at p; exact p
  | exn e ρ' => rw [q] at p; exact p
  | ok d ρ' =>
    rw [q] at p
    intro v H1 tm S1 k1 va ht
    dsimp only [R.bind] at p
    cases d with
    | bl b =>
      obtain ⟨rfl, rfl⟩ := val_bl va
      refine ⟨b, rfl, ?_⟩
      cases b with
      | false =>
        obtain ⟨h1, h2, h3⟩ := okG_of hk
        rw [if_neg Bool.false_ne_true]
        exact p _ H1 [] (S1.weak h1 h2 h3) (ST.weakStp (K := X.K) k1 h1) (.fz (.bl false) fun _ _ z => nomatch z) fun _ z => nomatch z
      | true =>
        rw [if_pos rfl]
        exact ⟨hid, ρ', S1, PostE.pre k1 p⟩
    | _ => exact (show False from p).elim⟩
theorem se_or (ha : SE X C W Γ a Γ1 fr1 f) (hb : SE X C W Γ1 (.BoolOp .Or (b :: rest) pos) Γ2 fr h) (hk : okG C.io Γ2 Γ1 = true := by rfl) : SE X C W Γ (.BoolOp .Or (a :: b :: rest) pos) Γ2 fr (mOrV f h) :=
  ⟨peImp (pe_or ha.pe hb.pe) fun σ H Q ⟨hid, ρ, S, p⟩ => by
  refine ⟨hid, ρ, S, ?_⟩
  unfold mOrV at p
  cases q : f ρ with
  | bad => rw [q] at p; exact p
  | exn e ρ' => rw [q] at p; exact p
  | ok d ρ' =>
    rw [q] at p
    intro v H1 tm S1 k1 va ht
    dsimp only [R.bind] at p
    cases d with
    | bl b =>
      obtain ⟨rfl, rfl⟩ := val_bl va
      refine ⟨b, rfl, ?_⟩
      cases b with
      | true =>
        obtain ⟨h1, h2, h3⟩ := okG_of hk
        rw [if_pos rfl]
        exact p _ H1 [] (S1.weak h1 h2 h3) (ST.weakStp (K := X.K) k1 h1) (.fz (.bl true) fun _ _ z => nomatch z) fun _ z => nomatch z
      | false =>
        rw [if_neg Bool.false_ne_true]
        exact ⟨hid, ρ', S1, PostE.pre k1 p⟩
    | _ => exact (show False from p).elim⟩
theorem se_one {op : BoolOp} (ha : SE X C W Γ a Γ' fr f) : SE X C W Γ (.BoolOp op [a] pos) Γ' fr f := ⟨pe_one ha.pe⟩
theorem se_not (ha : SE X C W Γ a Γ' fr1 f) : SE X C W Γ (.UnaryOp .Not a pos) Γ' fr (mNotV f) := ⟨peImp (pe_not ha.pe) fun σ H Q ⟨hid, ρ, S, p⟩ => by
  refine ⟨hid, ρ, S, ?_⟩
  unfold mNotV at p
  cases q : f ρ with
  | bad => rw [q] at p; exact p
  | exn e ρ' => rw [q] at p; exact p
  | ok d ρ' =>
    rw [q] at p
    intro v H1 tm S1 k1 va ht
    dsimp only [R.bind] at p
    cases d with
    | bl b =>
      obtain ⟨rfl, rfl⟩ := val_bl va
      exact ⟨b, rfl, p _ H1 [] S1 k1 (.fz (.bl _) fun _ _ z => nomatch z) fun _ z => nomatch z⟩
    | _ => exact (show False from p).elim⟩
theorem se_ifExp (hc : SP X C W Γ c Γ1 fb) (ha : SE X C W Γ1 a Γ2 fr f) (hb : SE X C W Γ1 b Γ2 fr h) : SE X C W Γ (.IfExp c a b pos) Γ2 fr (mIf fb f h) := ⟨peImp (pe_ifExp hc.pt ha.pe hb.pe) fun σ H Q ⟨hid, ρ, S, p⟩ => by
  refine ⟨hid, ρ, S, ?_⟩
  unfold mIf at p
  cases q : fb ρ with
  | bad => rw [q] at p; exact p
  | exn e ρ' => rw [q] at p; exact p
  | ok d ρ' =>
    rw [q] at p
    intro H1 S1 k1
    dsimp only [R.bind] at p
    cases d with
    | true => rw [if_pos rfl] at p ⊢; exact ⟨hid, ρ', S1, PostE.pre k1 p⟩
    | false => rw [if_neg Bool.false_ne_true] at p ⊢; exact ⟨hid, ρ', S1, PostE.pre k1 p⟩⟩

/-! ## several expressions -/
inductive Kepts (g : Gx) (H : Hp) (M tm : List Addr) : List D → List V → Prop where
  | nil : Kepts g H M tm [] []
  | cons {d : D} {v : V} {ds : List D} {vs : List V} : Kept g H M tm d v → Kepts g H M tm ds vs → Kepts g H M tm (d :: ds) (v :: vs)
theorem Kepts.length {g : Gx} {H : Hp} {M tm : List Addr} : ∀ {ds : List D} {vs : List V}, Kepts g H M tm ds vs → ds.length = vs.length
  | _, _, .nil => rfl
  | _, _, .cons _ t => by rw [List.length_cons, List.length_cons, t.length]
theorem Kepts.rv {g : Gx} {H : Hp} {M M' tm : List Addr} (s : ∀ a ∈ M', a ∈ M) (ht : ∀ a ∈ tm, a ∉ M') : ∀ {ds : List D} {vs : List V}, Kepts g H M tm ds vs → RVs g (mask H M') ds vs
  | _, _, .nil => .nil
  | _, _, .cons k t => .cons (k.rv s ht) (t.rv s ht)
inductive Shals (g : Gx) (H Hm : Hp) : List D → List V → Prop where
  | nil : Shals g H Hm [] []
  | cons {d : D} {v : V} {ds : List D} {vs : List V} : Shal g H Hm d v → Shals g H Hm ds vs → Shals g H Hm (d :: ds) (v :: vs)
theorem Kepts.shals {g : Gx} {H : Hp} {M tm : List Addr} : ∀ {ds : List D} {vs : List V}, Kepts g H M tm ds vs → Shals g H (mask H M) ds vs
  | _, _, .nil => .nil
  | _, _, .cons k t => .cons k.shal t.shals
section
variable (K : PySem.W.Frag) (C : Ac) (W : WX)
def PostA (Γ Γ' : List Nat) (hid : List Addr) (σ : L2.St) (H : Hp) (Q : List V → Hp → Prop) : R (List D) → Prop
  | .ok ds ρ' => ∀ vs H' tm, ST K C (tm ++ hid) Γ' ρ' σ H' → Stp (Ms σ hid Γ) (Ms σ (tm ++ hid) Γ') hid H H' → (∀ a ∈ tm, a ∉ Ms σ hid Γ') → Kepts (gx K C) H' (Ms σ (tm ++ hid) Γ') tm ds vs → Q vs H'
  | .exn e ρ' => ∀ cls od H', ExR (gx K C) H' (mask H' (Ms σ C.hid C.io)) e cls od → ST K C C.hid C.io ρ' σ H' → W cls od σ H'
  | .bad => False
def tAs (Γ Γ' : List Nat) (f : Env → R (List D)) : TA := fun σ H Q => ∃ hid ρ, ST K C hid Γ ρ σ H ∧ PostA K C W Γ Γ' hid σ H Q (f ρ)
end
structure SA (X : Cx) (C : Ac) (W : WX) (Γ : List Nat) (es : List Expr) (Γ' : List Nat) (f : Env → R (List D)) : Prop where
  pa : PA X es (tAs X.K C W Γ Γ' f)
  len : ∀ ρ ds ρ', f ρ = .ok ds ρ' → ds.length = es.length
def mNil : Env → R (List D) := fun ρ => .ok [] ρ
def mCons (f : Env → R D) (g : Env → R (List D)) : Env → R (List D) := fun ρ => (f ρ).bind fun d ρ1 => (g ρ1).bind fun ds ρ2 => .ok (d :: ds) ρ2
theorem sa_nil : SA X C W Γ [] Γ mNil := ⟨paImp pa_nil fun σ H Q ⟨hid, ρ, S, p⟩ => p [] H [] S (Stp.refl _ _ _) (fun _ z => nomatch z) .nil, fun ρ ds ρ' e => by cases e; rfl⟩
theorem sa_cons {es : List Expr} {g : Env → R (List D)} (ha : SE X C W Γ a Γ1 fr1 f) (hr : SA X C W Γ1 es Γ2 g) (hs : starEach (a :: es) X.env = (false, eval a X.env) :: starEach es X.env := by rfl) : SA X C W Γ (a :: es) Γ2 (mCons f g) := by
  refine ⟨paImp (pa_cons ha.pe hr.pa hs) fun σ H Q ⟨hid, ρ, S, p⟩ => ⟨hid, ρ, S, ?_⟩, fun ρ ds ρ' e => ?_⟩
  · unfold mCons at p
    cases q : f ρ with
    | bad => rw [q] at p; exact p
    | exn e ρ' => rw [q] at p; exact p
    | ok d ρ1 =>
      rw [q] at p
      dsimp only [R.bind] at p
      intro v H1 tm1 S1 k1 va t1
      refine ⟨tm1 ++ hid, ρ1, S1, ?_⟩
      cases q2 : g ρ1 with
      | bad => rw [q2] at p; exact p
      | exn e ρ' => rw [q2] at p; exact p
      | ok ds ρ2 =>
        rw [q2] at p
        dsimp only at p
        intro vs H2 tm2 S2 k2 t2 ks
        have e : tm2 ++ (tm1 ++ hid) = (tm2 ++ tm1) ++ hid := (List.append_assoc ..).symm
        rw [e] at S2 k2 ks
        have up : ∀ {ds : List D} {vs : List V}, Kepts (gx X.K C) H2 (Ms σ ((tm2 ++ tm1) ++ hid) Γ2) tm2 ds vs → Kepts (gx X.K C) H2 (Ms σ ((tm2 ++ tm1) ++ hid) Γ2) (tm2 ++ tm1) ds vs := by
          intro ds vs h
          induction h with
          | nil => exact .nil
          | cons k _ ih =>
            refine .cons ?_ ih
            rcases k with r | ⟨a, ha, r⟩
            · exact .inl r
            · exact .inr ⟨a, List.mem_append_left _ ha, r⟩
        refine p (v :: vs) H2 (tm2 ++ tm1) S2 (k1.trans k2 fun a ha => List.mem_append_right _ ha) (fun a ha z => ?_) (.cons ((Kept.of va).stp k2 fun a ha => List.mem_append_right _ ha) (up ks))
        rcases List.mem_append.mp ha with ha | ha
        · exact t2 a ha (Ms_subH (fun b hb => List.mem_append_right _ hb) a z)
        · rcases mem_Ms.mp z with z | ⟨i, hi, rfl⟩
          · exact t1 a ha (mem_Ms.mpr (.inl z))
          · exact S2.dis i hi (List.mem_append_left _ (List.mem_append_right _ ha))
  · unfold mCons at e
    cases q : f ρ with
    | bad => rw [q] at e; exact nomatch e
    | exn x ρ' => rw [q] at e; exact nomatch e
    | ok d ρ1 =>
      rw [q] at e
      dsimp only [R.bind] at e
      cases q2 : g ρ1 with
      | bad => rw [q2] at e; exact nomatch e
      | exn x ρ' => rw [q2] at e; exact nomatch e
      | ok ds2 ρ2 =>
        rw [q2] at e
        cases e
        rw [List.length_cons, List.length_cons, hr.len _ _ _ q2]

/-! ## displays -/
def mTup (g : Env → R (List D)) : Env → R D := fun ρ => (g ρ).bind fun ds ρ' => .ok (.tup ds) ρ'
def mLst (g : Env → R (List D)) : Env → R D := fun ρ => (g ρ).bind fun ds ρ' => .ok (.lst ds) ρ'
theorem line_le {n : Nat} (h : n ≤ 1000) : n ≤ sizeLine := Nat.le_trans h (by decide)
theorem se_tup {es : List Expr} {x1} {g : Env → R (List D)} (ha : SA X C W Γ es Γ' g) (hl : es.length ≤ 1000 := by decide) : SE X C W Γ (.Tuple es x1 pos) Γ' false (mTup g) := ⟨peImp (pe_tup ha.pa) fun σ H Q ⟨hid, ρ, S, p⟩ => by
  refine ⟨hid, ρ, S, ?_⟩
  unfold mTup at p
  cases q : g ρ with
  | bad => rw [q] at p; exact p
  | exn e ρ' => rw [q] at p; exact p
  | ok ds ρ' =>
    rw [q] at p
    dsimp only [R.bind] at p
    intro vs H1 tm S1 k1 t1 ks
    refine ⟨by rw [← ks.length, ha.len _ _ _ q]; exact line_le hl, fun a hp => ?_⟩
    have s := same_upd (o := HO.tup vs) hp
    refine p (.ref a) _ [] (S1.fin S.sub s) (k1.fin s fun a ha => (S1.trk a (List.mem_append_right _ ha)).1) (.fz ?_ fun z => nomatch z) fun _ z => nomatch z
    have sub : ∀ b ∈ Ms σ hid Γ', b ∈ Ms σ (tm ++ hid) Γ' := Ms_subH fun a ha => List.mem_append_right _ ha
    have hn : a ∉ Ms σ hid Γ' := fun z => S1.none_out hp (sub a z)
    refine .tup (by show mask (upd H1 a (HO.tup vs)) (Ms σ hid Γ') a = _; rw [mask_out hn, upd_same]) ((ks.rv sub t1).mono (.of_same (mask_keep fun b o _ e => s b o e)))⟩
theorem se_lst {es : List Expr} {g : Env → R (List D)} (ha : SA X C W Γ es Γ' g) (hl : es.length ≤ 1000 := by decide) : SE X C W Γ (.List es pos) Γ' true (mLst g) := ⟨peImp (pe_lst ha.pa) fun σ H Q ⟨hid, ρ, S, p⟩ => by
  refine ⟨hid, ρ, S, ?_⟩
  unfold mLst at p
  cases q : g ρ with
  | bad => rw [q] at p; exact p
  | exn e ρ' => rw [q] at p; exact p
  | ok ds ρ' =>
    rw [q] at p
    dsimp only [R.bind] at p
    intro vs H1 tm S1 k1 t1 ks
    refine ⟨by rw [← ks.length, ha.len _ _ _ q]; exact line_le hl, fun a hp => ?_⟩
    have S2 := S1.forget (fun a ha => List.mem_append_right _ ha) S.sub
    have sub : ∀ b ∈ Ms σ hid Γ', b ∈ Ms σ (tm ++ hid) Γ' := Ms_subH fun a ha => List.mem_append_right _ ha
    have k2 : Stp (Ms σ hid Γ) (Ms σ hid Γ') hid H H1 := ⟨k1.le.trans (.of_same (mask_sub sub)), k1.fx⟩
    have kh := S2.holdStp (o := HO.lst vs) hp
    exact p (.ref a) _ [a] (S2.hold hp) (k2.trans kh fun _ z => z) (.fr (.lst upd_same ((ks.rv sub t1).mono kh.le))) fun b hb => by
      rw [List.mem_singleton.mp hb]; exact S2.none_out hp⟩

/-! ## statements -/
def mSeq (f g : Env → R Fl) : Env → R Fl := fun ρ => match f ρ with
  | .ok .nx ρ' => g ρ'
  | r => r
def mNx : Env → R Fl := fun ρ => .ok .nx ρ
def mRet (f : Env → R D) : Env → R Fl := fun ρ => (f ρ).bind fun d ρ' => .ok (.rt d) ρ'
def mIfS (c : Env → R Bool) (f g : Env → R Fl) : Env → R Fl := fun ρ => (c ρ).bind fun b ρ' => if b then f ρ' else g ρ'
def mDrop (f : Env → R D) : Env → R Fl := fun ρ => (f ρ).bind fun d ρ' => .ok .nx ρ'
def mSet (i : Nat) (f : Env → R D) : Env → R Fl := fun ρ => (f ρ).bind fun d ρ' => if i < ρ'.length then .ok .nx (ρ'.set i (some d)) else .bad
def isObj : D → Bool
  | .lst _ => true
  | .dic _ _ => true
  | .dit _ _ => true
  | .obj _ _ _ => true
  | _ => false
def mSetO (i : Nat) (f : Env → R D) : Env → R Fl := fun ρ => (f ρ).bind fun d ρ' => if i < ρ'.length ∧ isObj d = true then .ok .nx (ρ'.set i (some d)) else .bad
variable {Γb : List Nat} {st : Stmt} {sts : List Stmt} {fs gs : Env → R Fl}
theorem PostS.pre {Dn : Ends} {σ σ1 : L2.St} {H H1 : Hp} {r : R Fl} (k : Stp (Ms σ C.hid Γ) (Ms σ1 C.hid Γ1) C.hid H H1) (p : PostS X.K C W Γ Γ2 Γb fr Dn σ H r) : PostS X.K C W Γ1 Γ2 Γb fr Dn σ1 H1 r := by
  cases r with
  | bad => exact p
  | exn e ρ => exact p
  | ok d ρ =>
    cases d with
    | nx => exact fun σ' H' S' k' => p σ' H' S' (k.trans k' fun _ z => z)
    | bk => exact fun σ' H' S' k' => p σ' H' S' (k.trans k' fun _ z => z)
    | ct => exact fun σ' H' S' k' => p σ' H' S' (k.trans k' fun _ z => z)
    | rt d => exact p
theorem ss_nil : SSs X C W Γ [] Γ Γb fr mNx := ⟨pssImp pss_nil fun Dn σ H ⟨ρ, S, p⟩ => p σ H S (Stp.refl _ _ _)⟩
theorem ss_pass : SS X C W Γ (.Pass pos) Γ Γb fr mNx := ⟨psImp ps_pass fun Dn σ H ⟨ρ, S, p⟩ => p σ H S (Stp.refl _ _ _)⟩
theorem ss_break : SS X C W Γ (.Break pos) Γ' Γ fr (fun ρ => .ok .bk ρ) := ⟨psImp ps_break fun Dn σ H ⟨ρ, S, p⟩ => p σ H S (Stp.refl _ _ _)⟩
theorem ss_continue : SS X C W Γ (.Continue pos) Γ' Γ fr (fun ρ => .ok .ct ρ) := ⟨psImp ps_continue fun Dn σ H ⟨ρ, S, p⟩ => p σ H S (Stp.refl _ _ _)⟩
theorem ss_one (h : SS X C W Γ st Γ' Γb fr fs) : SSs X C W Γ [st] Γ' Γb fr fs := ⟨pss_one h.ps⟩
theorem ss_cons (h1 : SS X C W Γ st Γ1 Γb fr fs) (h2 : SSs X C W Γ1 sts Γ2 Γb fr gs) : SSs X C W Γ (st :: sts) Γ2 Γb fr (mSeq fs gs) := ⟨pssImp (pss_cons h1.ps h2.ps) fun Dn σ H ⟨ρ, S, p⟩ => by
  refine ⟨ρ, S, ?_⟩
  unfold mSeq at p
  cases q : fs ρ with
  | bad => rw [q] at p; exact p
  | exn e ρ' => rw [q] at p; exact p
  | ok d ρ' =>
    rw [q] at p
    cases d with
    | nx => exact fun σ' H' S' k' => ⟨ρ', S', PostS.pre k' p⟩
    | bk => exact p
    | ct => exact p
    | rt d => exact p⟩
theorem ss_weak (h : SSs X C W Γ sts Γ1 Γb fr fs) (hk : okG C.io Γ2 Γ1 = true := by rfl) : SSs X C W Γ sts Γ2 Γb fr fs := ⟨pssImp h.ps fun Dn σ H ⟨ρ, S, p⟩ => by
  refine ⟨ρ, S, ?_⟩
  obtain ⟨h1, h2, h3⟩ := okG_of hk
  cases q : fs ρ with
  | bad => rw [q] at p; exact p
  | exn e ρ' => rw [q] at p; exact p
  | ok d ρ' =>
    rw [q] at p
    cases d with
    | nx => exact fun σ' H' S' k' => p σ' H' (S'.weak h1 h2 h3) (ST.weakStp (K := X.K) k' h1)
    | bk => exact p
    | ct => exact p
    | rt d => exact p⟩
theorem ss_weakb (h : SSs X C W Γ sts Γ' Γ1 fr fs) (hk : okG C.io Γb Γ1 = true := by rfl) : SSs X C W Γ sts Γ' Γb fr fs := ⟨pssImp h.ps fun Dn σ H ⟨ρ, S, p⟩ => by
  refine ⟨ρ, S, ?_⟩
  obtain ⟨h1, h2, h3⟩ := okG_of hk
  cases q : fs ρ with
  | bad => rw [q] at p; exact p
  | exn e ρ' => rw [q] at p; exact p
  | ok d ρ' =>
    rw [q] at p
    cases d with
    | nx => exact p
    | bk => exact fun σ' H' S' k' => p σ' H' (S'.weak h1 h2 h3) (ST.weakStp (K := X.K) k' h1)
    | ct => exact fun σ' H' S' k' => p σ' H' (S'.weak h1 h2 h3) (ST.weakStp (K := X.K) k' h1)
    | rt d => exact p⟩
theorem ss_ret (ha : SE X C W Γ e Γ1 fr f) (hk : okG C.io C.io Γ1 = true := by rfl) : SS X C W Γ (.Return (some e) pos) Γ' Γb fr (mRet f) := ⟨psImp (ps_ret ha.pe) fun Dn σ H ⟨ρ, S, p⟩ => by
  refine ⟨C.hid, ρ, S, ?_⟩
  unfold mRet at p
  cases q : f ρ with
  | bad => rw [q] at p; exact p
  | exn e ρ' => rw [q] at p; exact fun cls od H' x S' => p cls od σ H' x S'
  | ok d ρ' =>
    rw [q] at p
    dsimp only [R.bind] at p
    intro v H1 tm S1 k1 va t1
    obtain ⟨h1, h2, h3⟩ := okG_of hk
    have sub : ∀ a ∈ Ms σ (tm ++ C.hid) C.io, a ∈ Ms σ (tm ++ C.hid) Γ1 := Ms_sub h1
    refine p v σ H1 tm (S1.weak h1 h2 h3) ?_ fun a ha z => t1 a ha (Ms_sub h1 a z)
    cases va with
    | fz r hv => exact .fz (r.mono (.of_same (mask_sub sub))) hv
    | fr c => exact .fr (c.mono (fun _ z => z) (.of_same (mask_sub sub)))⟩
theorem ss_retN (hk : okG C.io C.io Γ = true := by rfl) : SS X C W Γ (.Return none pos) Γ' Γb fr (mRet (mC .non)) := ⟨psImp ps_retN fun Dn σ H ⟨ρ, S, p⟩ => by
  obtain ⟨h1, h2, h3⟩ := okG_of hk
  exact p .non σ H [] (S.weak h1 h2 h3) (.fz .non fun _ _ z => nomatch z) fun _ z => nomatch z⟩
theorem ss_if {A B : List Stmt} (hc : SP X C W Γ c Γ1 fb) (ha : SSs X C W Γ1 A Γ2 Γb fr fs) (hb : SSs X C W Γ1 B Γ2 Γb fr gs) : SS X C W Γ (.If c A B pos) Γ2 Γb fr (mIfS fb fs gs) := ⟨psImp (ps_if hc.pt ha.ps hb.ps) fun Dn σ H ⟨ρ, S, p⟩ => by
  refine ⟨C.hid, ρ, S, ?_⟩
  unfold mIfS at p
  cases q : fb ρ with
  | bad => rw [q] at p; exact p
  | exn e ρ' => rw [q] at p; exact fun cls od H' x S' => p cls od σ H' x S'
  | ok b ρ' =>
    rw [q] at p
    dsimp only [R.bind] at p
    intro H1 S1 k1
    cases b with
    | true => rw [if_pos rfl] at p ⊢; exact ⟨ρ', S1, PostS.pre k1 p⟩
    | false => rw [if_neg Bool.false_ne_true] at p ⊢; exact ⟨ρ', S1, PostS.pre k1 p⟩⟩
theorem ss_expr (ha : SE X C W Γ e Γ' fr1 f) (hs : swapsWith e none pos.line X.env = pure false := by rfl) : SS X C W Γ (.Expr e pos) Γ' Γb fr (mDrop f) := ⟨psImp (ps_expr ha.pe hs) fun Dn σ H ⟨ρ, S, p⟩ => by
  refine ⟨C.hid, ρ, S, ?_⟩
  unfold mDrop at p
  cases q : f ρ with
  | bad => rw [q] at p; exact p
  | exn e ρ' => rw [q] at p; exact fun cls od H' x S' => p cls od σ H' x S'
  | ok d ρ' =>
    rw [q] at p
    dsimp only [R.bind] at p
    intro v H1 tm S1 k1 va t1
    exact p σ H1 (S1.forget (fun a ha => List.mem_append_right _ ha) fun _ z => z) ⟨k1.le.trans (.of_same (mask_sub (Ms_subH fun a ha => List.mem_append_right _ ha))), k1.fx⟩⟩
theorem notin_of {Γ : List Nat} {i : Nat} (h : Γ.contains i = false) : i ∉ Γ := fun z => by rw [List.contains_iff_mem.mpr z] at h; cases h
/-- what a store of a value that is read alone asks -/
theorem put_tE {i : Nat} {Dn : Ends} {σ : L2.St} {H : Hp} (hk : okG C.io Γ2 Γ1 = true) (hi : Γ2.contains i = false) (p : tS X.K C W Γ Γ2 Γb fr (mSet i f) Dn σ H) : tE X.K C W Γ Γ1 false f σ H fun x H1 => Dn.nx (σ.set i (some x)) H1 := by
  obtain ⟨ρ, S, p⟩ := p
  refine ⟨C.hid, ρ, S, ?_⟩
  unfold mSet at p
  cases q : f ρ with
  | bad => rw [q] at p; exact p
  | exn e ρ' => rw [q] at p; exact fun cls od H' x S' => p cls od σ H' x S'
  | ok d ρ' =>
    rw [q] at p
    dsimp only [R.bind] at p
    intro v H1 tm S1 k1 va t1
    cases va with
    | fz r hv =>
      obtain ⟨h1, h2, h3⟩ := okG_of hk
      have S2 : ST X.K C C.hid Γ2 ρ' σ H1 := S1.weak h1 h2 h3
      have r2 := r.mono (.of_same (mask_sub (Ms_sub h1)))
      by_cases il : i < ρ'.length
      · rw [if_pos il] at p
        refine p _ H1 (S2.put (notin_of hi) r2 il) ?_
        rw [Ms_set (notin_of hi)]
        exact ST.weakStp (K := X.K) k1 h1
      · rw [if_neg il] at p; exact p.elim
/-- x = e, read alone from now on -/
theorem ss_set (i : Nat) {x : Str} {pos' : Pos} (hN : X.N.Nodup) (ha : SE X C W Γ e Γ1 false f) (hi : X.N[i]? = some x := by rfl) (hx : Loc X.env.scope x := by first | exact Or.inl rfl | exact Or.inr rfl) (hk : okG C.io Γ2 Γ1 = true := by rfl) (hn : Γ2.contains i = false := by rfl)
    (hs : swapsWith e (some (.Name x pos')) pos.line X.env = pure false := by rfl) (hf : X.fn x = true ∨ X.env.scope.names.lookup x = some .local := by first | exact .inl rfl | exact .inr rfl | assumption) : SS X C W Γ (.Assign [.Name x pos'] e pos) Γ2 Γb fr (mSet i f) :=
  ⟨psImp (ps_set hN hi hx ha.pe hs hf) fun Dn σ H p => put_tE hk hn p⟩
theorem obj_val {g : Gx} {H : Hp} {M tm : List Addr} {b : Bool} {d : D} {v : V} (h : Val g H M b d v tm) (ho : isObj d = true) (hb : b = true) : ∃ a, v = .ref a ∧ tm = [a] ∧ Cont g H (mask H M) a d := by
  cases h with
  | fz r hv =>
    cases r with
    | lst _ _ => exact absurd rfl (hv hb _)
    | dK _ _ _ => exact absurd rfl (hv hb _)
    | dT _ _ _ => exact absurd rfl (hv hb _)
    | obj _ _ _ _ => exact absurd rfl (hv hb _)
    | _ => exact absurd ho Bool.false_ne_true
  | fr c => exact ⟨_, rfl, rfl, c⟩
theorem take_tE {i : Nat} {Dn : Ends} {σ : L2.St} {H : Hp} (hk : okG C.io Γ2 Γ1 = true) (hi : Γ2.contains i = false) (p : tS X.K C W Γ (i :: Γ2) Γb fr (mSetO i f) Dn σ H) : tE X.K C W Γ Γ1 true f σ H fun x H1 => Dn.nx (σ.set i (some x)) H1 := by
  obtain ⟨ρ, S, p⟩ := p
  refine ⟨C.hid, ρ, S, ?_⟩
  unfold mSetO at p
  cases q : f ρ with
  | bad => rw [q] at p; exact p
  | exn e ρ' => rw [q] at p; exact fun cls od H' x S' => p cls od σ H' x S'
  | ok d ρ' =>
    rw [q] at p
    dsimp only [R.bind] at p
    intro v H1 tm S1 k1 va t1
    obtain ⟨h1, h2, h3⟩ := okG_of hk
    by_cases il : i < ρ'.length ∧ isObj d = true
    · rw [if_pos il] at p
      obtain ⟨a, rfl, rfl, c⟩ := obj_val va il.2 rfl
      have S2 : ST X.K C (a :: C.hid) Γ2 ρ' σ H1 := S1.weak h1 h2 h3
      have hi' := notin_of hi
      have c2 : Cont (gx X.K C) H1 (mask H1 (Ms σ (a :: C.hid) Γ2)) a d := c.mono (fun _ z => z) (.of_same (mask_sub (Ms_sub h1)))
      have ha : a ∉ C.hid := fun z => t1 a (by simp) (mem_Ms.mpr (.inl z))
      refine p _ H1 (S2.take hi' c2 il.1 ha fun _ z => z) ⟨?_, k1.fx⟩
      have il' : i < σ.length := by rw [← S2.len]; exact il.1
      have si : sa (σ.set i (some (.ref a))) i = a := sa_eq (List.getElem?_set_self il')
      refine k1.le.trans (.of_same (mask_sub fun b hb => ?_))
      unfold Ms at hb ⊢
      rw [List.map_cons, si, map_sa_set hi'] at hb
      rcases List.mem_append.mp hb with hb | hb
      · exact List.mem_append_left _ (List.mem_cons_of_mem _ hb)
      · rcases List.mem_cons.mp hb with rfl | hb
        · exact List.mem_append_left _ List.mem_cons_self
        · obtain ⟨j, hj, rfl⟩ := List.mem_map.mp hb
          exact List.mem_append_right _ (List.mem_map.mpr ⟨j, h1 j hj, rfl⟩)
    · rw [if_neg il] at p; exact p.elim
/-- x = e, owned from now on -/
theorem ss_setO (i : Nat) {x : Str} {pos' : Pos} (hN : X.N.Nodup) (ha : SE X C W Γ e Γ1 true f) (hi : X.N[i]? = some x := by rfl) (hx : Loc X.env.scope x := by first | exact Or.inl rfl | exact Or.inr rfl) (hk : okG C.io Γ2 Γ1 = true := by rfl) (hn : Γ2.contains i = false := by rfl)
    (hs : swapsWith e (some (.Name x pos')) pos.line X.env = pure false := by rfl) (hf : X.fn x = true ∨ X.env.scope.names.lookup x = some .local := by first | exact .inl rfl | exact .inr rfl | assumption) : SS X C W Γ (.Assign [.Name x pos'] e pos) (i :: Γ2) Γb fr (mSetO i f) :=
  ⟨psImp (ps_set hN hi hx ha.pe hs hf) fun Dn σ H p => take_tE hk hn p⟩
end
end Ip
namespace Ip
open PySem L2 PySem.Spec PyProof.Rows

/-! ## a def's semantics -/
inductive FR where
  | ok (d : D) (outs : List D) | exn (e : Ex) (outs : List D) | bad
abbrev FSem := List D → FR
def outsOf (io : List Nat) (ρ : Env) : List D := io.filterMap fun i => ρ.getD i none
def fnEnd (io : List Nat) : R Fl → FR
  | .ok (.rt d) ρ => .ok d (outsOf io ρ)
  | .ok .nx ρ => .ok .non (outsOf io ρ)
  | .exn e ρ => .exn e (outsOf io ρ)
  | _ => .bad
def env0 (n : Nat) (ds : List D) : Env := ds.map some ++ List.replicate (n - ds.length) none
def fnSem (n : Nat) (io : List Nat) (body : Env → R Fl) : FSem := fun ds => fnEnd io (body (env0 n ds))

structure CArgs (g : Gx) (io : List Nat) (ds : List D) (vs : List V) (H : Hp) (hid ioA : List Addr) : Prop where
  len : ds.length = vs.length
  ioa : io.map (fun i => vs[i]?) = ioA.map fun a => some (V.ref a)
  nd : ioA.Nodup
  dis : ∀ a ∈ ioA, a ∉ hid
  trk : ∀ a ∈ hid, Hd H a
  fz : ∀ i d, i ∉ io → ds[i]? = some d → ∃ v, vs[i]? = some v ∧ RV g (mask H (hid ++ ioA)) d v
  own : ∀ i, i ∈ io → ∃ d a, ds[i]? = some d ∧ vs[i]? = some (.ref a) ∧ Cont g H (mask H (hid ++ ioA)) a d
structure CEnd (g : Gx) (io : List Nat) (vs : List V) (H : Hp) (hid ioA : List Addr) (outs : List D) (tm : List Addr) (H' : Hp) : Prop where
  le : HLe (mask H (hid ++ ioA)) (mask H' (hid ++ ioA))
  fx : ∀ a ∈ hid, H' a = H a
  gro : ∀ a, H a ≠ none → H' a ≠ none
  olen : outs.length = io.length
  own : ∀ (k i : Nat) (d : D), io[k]? = some i → outs[k]? = some d → ∃ a, vs[i]? = some (.ref a) ∧ Cont g H' (mask H' (tm ++ (hid ++ ioA))) a d
  tn : ∀ a ∈ tm, H a = none
def PostF (g : Gx) (io : List Nat) (fr : Bool) (vs : List V) (H : Hp) (hid ioA : List Addr) (Q : VK) (E : XK) : FR → Prop
  | .ok d outs => ∀ v H' tm, CEnd g io vs H hid ioA outs tm H' → Val g H' (tm ++ (hid ++ ioA)) fr d v tm → Q v H'
  | .exn e outs => ∀ cls od H', CEnd g io vs H hid ioA outs [] H' → ExR g H' (mask H' (hid ++ ioA)) e cls od → E cls od H'
  | .bad => False
/-- the promise of a def whose semantics is F: n parameters, those in io may be changed -/
def spF (K : PySem.W.Frag) (ct : Str → Option Addr) (n : Nat) (io : List Nat) (fr : Bool) (F : FSem) : Sp := fun vs H Q E => ∃ (ds : List D) (hid ioA : List Addr),
  vs.length = n ∧ CArgs ⟨K, ct⟩ io ds vs H hid ioA ∧ PostF ⟨K, ct⟩ io fr vs H hid ioA Q E (F ds)

theorem outs_get {K : PySem.W.Frag} {C : Ac} {hid : List Addr} {Γ : List Nat} {ρ : Env} {σ : L2.St} {H : Hp} (S : ST K C hid Γ ρ σ H) : ∀ (io : List Nat), (∀ i ∈ io, i ∈ Γ) → (outsOf io ρ).length = io.length ∧
    ∀ (k i : Nat) (d : D), io[k]? = some i → (outsOf io ρ)[k]? = some d → ρ[i]? = some (some d)
  | [], _ => ⟨rfl, fun k i d h => by simp at h⟩
  | j :: r, hs => by
    obtain ⟨h1, h2⟩ := outs_get S r fun i hi => hs i (List.mem_cons_of_mem _ hi)
    obtain ⟨dj, ej, _, _⟩ := S.ow j (hs j List.mem_cons_self)
    have e : outsOf (j :: r) ρ = dj :: outsOf r ρ := by
      unfold outsOf
      rw [List.filterMap_cons, List.getD_eq_getElem?_getD, ej]
      rfl
    rw [e]
    refine ⟨by rw [List.length_cons, List.length_cons, h1], fun k i d hk ho => ?_⟩
    cases k with
    | zero =>
      have : j = i := Option.some.inj hk
      subst this
      have : dj = d := Option.some.inj ho
      subst this
      exact ej
    | succ k => exact h2 k i d (by simpa using hk) (by simpa using ho)
theorem map_some_inj {α β : Type} {f : α → Option β} {g' : α → β} : ∀ {l : List α} {m : List β}, (∀ a ∈ l, f a = some (g' a)) → l.map f = m.map some → l.map g' = m
  | [], [], _, _ => rfl
  | [], _ :: _, _, h => by simp at h
  | _ :: _, [], _, h => by simp at h
  | a :: l, b :: m, hf, h => by
    rw [List.map_cons, List.map_cons, hf a List.mem_cons_self] at h
    injection h with h1 h2
    rw [List.map_cons, Option.some.inj h1, map_some_inj (fun a ha => hf a (List.mem_cons_of_mem _ ha)) h2]
theorem start_get {N : List Str} {vs : List V} {i : Nat} {v : V} (h : vs[i]? = some v) : (L2.start N vs)[i]? = some (some v) := by
  unfold L2.start
  have hi := (List.getElem?_eq_some_iff.mp h).1
  rw [List.getElem?_append_left (by simpa using hi), List.getElem?_map, h]
  rfl
theorem env0_get {n : Nat} {ds : List D} {i : Nat} {d : D} (h : ds[i]? = some d) : (env0 n ds)[i]? = some (some d) := by
  unfold env0
  have hi := (List.getElem?_eq_some_iff.mp h).1
  rw [List.getElem?_append_left (by simpa using hi), List.getElem?_map, h]
  rfl
theorem env0_some {n : Nat} {ds : List D} {i : Nat} {d : D} (h : (env0 n ds)[i]? = some (some d)) : ds[i]? = some d := by
  unfold env0 at h
  by_cases hi : i < ds.length
  · rw [List.getElem?_append_left (by simpa using hi), List.getElem?_map] at h
    cases e : ds[i]? with
    | none => rw [e] at h; cases h
    | some a => rw [e] at h; cases h; rfl
  · rw [List.getElem?_append_right (by simpa using hi), List.getElem?_replicate] at h
    split at h <;> cases h

theorem ST.begin {K : PySem.W.Frag} {ct : Str → Option Addr} {N : List Str} {io : List Nat} {ds : List D} {vs : List V} {H : Hp} {hid ioA : List Addr} (A : CArgs ⟨K, ct⟩ io ds vs H hid ioA) (hl : vs.length ≤ N.length) :
    ST K ⟨ct, H, hid, io, ioA⟩ hid io (env0 N.length ds) (L2.start N vs) H ∧ io.map (sa (L2.start N vs)) = ioA := by
  have pin : io.map (sa (L2.start N vs)) = ioA := by
    refine map_some_inj (f := fun i => match vs[i]? with | some (V.ref a) => some a | _ => none) (fun i hi => ?_) ?_
    · obtain ⟨d, a, _, e2, _⟩ := A.own i hi
      rw [e2]
      exact congrArg some (sa_eq (start_get e2)).symm
    · have h := congrArg (List.map fun (o : Option V) => match o with | some (V.ref a) => some a | _ => none) A.ioa
      rw [List.map_map, List.map_map] at h
      exact h
  have hM : Ms (L2.start N vs) hid io = hid ++ ioA := by unfold Ms; rw [pin]
  refine ⟨⟨?_, fun _ z => z, A.trk, fun a ha => .inl ha, by rw [pin]; exact A.nd, fun i hi => ?_, fun i hi => ?_, .refl _, fun _ _ => rfl, fun _ z => z, fun _ z => z, pin, fun i d hi e => ?_, fun i hi => ?_⟩, pin⟩
  · unfold env0 L2.start
    rw [List.length_append, List.length_append, List.length_map, List.length_map, List.length_replicate, List.length_replicate, A.len]
  · exact A.dis _ (by rw [← pin]; exact List.mem_map_of_mem hi)
  · exact .inl (by rw [← pin]; exact List.mem_map_of_mem hi)
  · obtain ⟨v, e1, r⟩ := A.fz i d hi (env0_some e)
    exact ⟨v, start_get e1, by rw [hM]; exact r⟩
  · obtain ⟨d, a, e1, e2, c⟩ := A.own i hi
    have es := sa_eq (start_get (N := N) e2)
    exact ⟨d, env0_get e1, by rw [es]; exact start_get e2, by rw [hM, es]; exact c⟩
theorem ST.cend {K : PySem.W.Frag} {ct : Str → Option Addr} {io : List Nat} {ds : List D} {vs : List V} {H : Hp} {hid ioA : List Addr} (A : CArgs ⟨K, ct⟩ io ds vs H hid ioA) {tm : List Addr} {ρ : Env} {σ : L2.St} {H' : Hp}
    (S : ST K ⟨ct, H, hid, io, ioA⟩ (tm ++ hid) io ρ σ H') (ht : ∀ a ∈ tm, a ∉ Ms σ hid io) : CEnd ⟨K, ct⟩ io vs H hid ioA (outsOf io ρ) tm H' ∧ Ms σ (tm ++ hid) io = tm ++ (hid ++ ioA) ∧ Ms σ hid io = hid ++ ioA := by
  have pin : io.map (sa σ) = ioA := S.pin
  have hM : Ms σ (tm ++ hid) io = tm ++ (hid ++ ioA) := by unfold Ms; rw [pin, List.append_assoc]
  obtain ⟨o1, o2⟩ := outs_get S io fun _ z => z
  refine ⟨⟨S.frm, S.frh, S.gro, o1, fun k i d hk ho => ?_, fun a ha => ?_⟩, hM, by unfold Ms; rw [pin]⟩
  · have e1 := o2 k i d hk ho
    have hi := List.mem_of_getElem? hk
    obtain ⟨d', e2, e3, c⟩ := S.ow i hi
    rw [e1] at e2; cases e2
    refine ⟨sa σ i, ?_, by rw [← hM]; exact c⟩
    have h := congrArg (fun l => l[k]?) A.ioa
    simp only [List.getElem?_map, hk, Option.map_some] at h
    rw [← pin] at h
    simp only [List.getElem?_map, hk, Option.map_some] at h
    exact Option.some.inj h
  · rcases S.tmp a (List.mem_append_left _ ha) with z | z
    · exact absurd (mem_Ms.mpr (.inl z)) (ht a ha)
    · exact z

/-- the body of a def as its semantics tells -/
theorem body_sp {X : Cx} {K : PySem.W.Frag} {ct : Str → Option Addr} {N : List Str} {io : List Nat} {n : Nat} {fr : Bool} {f : Env → R Fl} {bd : List Stmt} {vs : List V} {H : Hp} {Q : VK} {E : XK} {W : WX} (hX : X.K = K) (hW : ∀ cls od σ H', E cls od H' → W cls od σ H')
    (hb : ∀ (hid ioA : List Addr), SSs X ⟨ct, H, hid, io, ioA⟩ W io bd io [] fr f) (hl : n ≤ N.length) (h : spF K ct n io fr (fnSem N.length io f) vs H Q E) :
    ∃ t, PSs X bd t ∧ t { nx := fun _ H' => Q .non H', rt := Q } (L2.start N vs) H := by
  subst hX
  obtain ⟨ds, hid, ioA, hn, A, p⟩ := h
  refine ⟨_, (hb hid ioA).ps, ?_⟩
  obtain ⟨S, pin⟩ := ST.begin (N := N) A (by rw [hn]; exact hl)
  refine ⟨_, S, ?_⟩
  unfold fnSem at p
  cases q : f (env0 N.length ds) with
  | bad => rw [q] at p; exact p
  | exn e ρ' =>
    rw [q] at p
    intro cls od σ' H' x S'
    obtain ⟨c, _, hM⟩ := ST.cend (tm := []) A S' fun _ z => nomatch z
    exact hW _ _ _ _ (p cls od H' c (by rw [← hM]; exact x))
  | ok fl ρ' =>
    rw [q] at p
    cases fl with
    | bk => exact (show False from p).elim
    | ct => exact (show False from p).elim
    | nx =>
      intro σ' H' S' _
      obtain ⟨c, _, hM⟩ := ST.cend (tm := []) A S' fun _ z => nomatch z
      exact p .non H' [] c (.fz .non fun _ _ z => nomatch z)
    | rt d =>
      intro v σ' H' tm S' va ht
      obtain ⟨c, hM, _⟩ := ST.cend A S' ht
      exact p v H' tm c (by rw [← hM]; exact va)

theorem spF_len {K : PySem.W.Frag} {ct : Str → Option Addr} {n : Nat} {io : List Nat} {fr : Bool} {F : FSem} {ps : List Str} (h : n = ps.length) : ∀ vs H Q E, spF K ct n io fr F vs H Q E → vs.length = ps.length := fun vs H Q E ⟨_, _, _, e, _⟩ => e.trans h
/-- THE RULE of a def -/
theorem def_ok {P : Program} {w : World} {K : PySem.W.Frag} {mg : Str → Option Value} {base : Heap} {x qual : Str} {st : Stmt} {f : Addr} {fd : FuncData} {N ps : List Str} {k n : Nat} {io : List Nat} {fr : Bool} {ct : Str → Option Addr} {sem : Env → R Fl}
    (F : Fun K x qual st f fd) (S : FnScope N ps (defScope st)) (hn : n = ps.length)
    (hb : ∀ (cdv : Value) (A : Around) (outer : List PySem.Env) (s : Shared) (H : Hp) (E : XK) (hid ioA : List Addr), Room k (A.deeper (envOfC qual (defScope st) s.heap.objs.size f cdv)) →
      SSs (cxOf (L2.CX P w) P w K mg base N qual (defScope st) f cdv A outer s H E) ⟨ct, H, hid, io, ioA⟩ (fun cls od _ H' => E cls od H') io (defBody st) io [] fr sem) :
    FnOk P w K mg base (L2.CX P w) (k + 1) f fd ps (spF K ct n io fr (fnSem N.length io sem)) := by
  refine F.okX S (spF_len hn) fun cdv A outer s H vs Q E hr h => ?_
  refine body_sp (X := cxOf (L2.CX P w) P w K mg base N qual (defScope st) f cdv A outer s H E) (W := fun cls od _ H' => E cls od H') rfl (fun _ _ _ _ h => h) (fun hid ioA => hb cdv A outer s H E hid ioA hr) ?_ h
  have := congrArg List.length S.pre
  rw [List.length_take] at this
  omega
end Ip
namespace Ip
open PySem L2 PySem.Spec PyProof.Rows

theorem HLe.hold {H H' : Hp} {M tm : List Addr} (le : HLe (mask H M) (mask H' M)) (tn : ∀ a ∈ tm, H a = none) : HLe (mask H M) (mask H' (tm ++ M)) := by
  have out : ∀ b o, mask H M b = some o → b ∉ tm := fun b o e z => by
    have := (mask_some e).2
    rw [tn b z] at this; cases this
  have go : ∀ b u, b ∉ tm → mask H' M b = some u → mask H' (tm ++ M) b = some u := fun b u n e => by
    obtain ⟨h1, h2⟩ := mask_some e
    rw [mask_out (fun z => (List.mem_append.mp z).elim n h1)]; exact h2
  refine ⟨fun b o e n => go b o (out b o e) (le.o b o e n), fun b kv e => ?_, fun b kv e => ?_⟩
  · have nb : b ∉ tm := e.elim (fun e => out b _ e) fun ⟨o, e⟩ => out b _ e
    exact (le.k b kv e).elim (fun e => .inl (go b _ nb e)) fun ⟨o, e⟩ => .inr ⟨o, go b _ nb e⟩
  · have nb : b ∉ tm := e.elim (fun e => out b _ e) fun ⟨o, e⟩ => out b _ e
    exact (le.t b kv e).elim (fun e => .inl (go b _ nb e)) fun ⟨o, e⟩ => .inr ⟨o, go b _ nb e⟩

section
variable {K : PySem.W.Frag} {C : Ac} {hid tm : List Addr} {Γ : List Nat} {ρ ρ' : Env} {σ : L2.St} {H H' : Hp}
/-- the heap goes on, owned objects may change, temporaries come -/
theorem ST.goes (S : ST K C hid Γ ρ σ H) (le : HLe (mask H (Ms σ hid Γ)) (mask H' (Ms σ hid Γ))) (fx : ∀ a ∈ hid, H' a = H a) (gro : ∀ a, H a ≠ none → H' a ≠ none) (tn : ∀ a ∈ tm, H a = none) (tt : ∀ a ∈ tm, Hd H' a)
    (hl : ρ'.length = ρ.length) (hs : ∀ j, j ∉ Γ → ρ'[j]? = ρ[j]?) (ho : ∀ j, j ∈ Γ → (ρ'[j]? = ρ[j]? ∧ H' (sa σ j) = H (sa σ j)) ∨ ∃ d, ρ'[j]? = some (some d) ∧ Cont (gx K C) H' (mask H' (tm ++ Ms σ hid Γ)) (sa σ j) d) :
    ST K C (tm ++ hid) Γ ρ' σ H' ∧ Stp (Ms σ hid Γ) (Ms σ (tm ++ hid) Γ) hid H H' := by
  have eM : Ms σ (tm ++ hid) Γ = tm ++ Ms σ hid Γ := by unfold Ms; rw [List.append_assoc]
  have leh := le.hold tn
  have h0 : ∀ a ∈ tm, C.H0 a = none := fun a ha => by
    cases q : C.H0 a with
    | none => rfl
    | some u => exact absurd (tn a ha) (S.gro a (by rw [q]; simp))
  -- the frame
  have out : ∀ b, b ∉ C.hid ++ C.ioA → C.H0 b ≠ none → b ∉ Ms σ hid Γ := fun b hb hn hM => by
    rcases mem_Ms.mp hM with q | ⟨i, hi, rfl⟩
    · rcases S.tmp b q with z | z
      · exact hb (List.mem_append_left _ z)
      · exact hn z
    · rcases S.own i hi with z | z
      · exact hb (List.mem_append_right _ z)
      · exact hn z
  have frm : HLe (mask C.H0 (C.hid ++ C.ioA)) (mask H' (C.hid ++ C.ioA)) := by
    refine ⟨fun b o e n => ?_, fun b kv e => ?_, fun b kv e => ?_⟩
    · obtain ⟨h1, h2⟩ := mask_some e
      have e2 := (mask_some (S.frm.o b o e n)).2
      have hM := out b h1 (by rw [h2]; simp)
      have := le.o b o (by rw [mask_out hM]; exact e2) n
      rw [mask_out hM] at this
      rw [mask_out h1]; exact this
    · have hb : b ∉ C.hid ++ C.ioA ∧ C.H0 b ≠ none := by
        rcases e with e | ⟨o, e⟩ <;> exact ⟨(mask_some e).1, by rw [(mask_some e).2]; simp⟩
      have hM := out b hb.1 hb.2
      have r2 : Rd (mask H (Ms σ hid Γ)) b (.dK kv) := by
        rcases S.frm.k b kv e with r | ⟨o, r⟩
        · exact .inl (by rw [mask_out hM]; exact (mask_some r).2)
        · exact .inr ⟨o, by rw [mask_out hM]; exact (mask_some r).2⟩
      rcases le.k b kv r2 with r | ⟨o, r⟩
      · exact .inl (by rw [mask_out hb.1]; exact (mask_some r).2)
      · exact .inr ⟨o, by rw [mask_out hb.1]; exact (mask_some r).2⟩
    · have hb : b ∉ C.hid ++ C.ioA ∧ C.H0 b ≠ none := by
        rcases e with e | ⟨o, e⟩ <;> exact ⟨(mask_some e).1, by rw [(mask_some e).2]; simp⟩
      have hM := out b hb.1 hb.2
      have r2 : Rd (mask H (Ms σ hid Γ)) b (.dT kv) := by
        rcases S.frm.t b kv e with r | ⟨o, r⟩
        · exact .inl (by rw [mask_out hM]; exact (mask_some r).2)
        · exact .inr ⟨o, by rw [mask_out hM]; exact (mask_some r).2⟩
      rcases le.t b kv r2 with r | ⟨o, r⟩
      · exact .inl (by rw [mask_out hb.1]; exact (mask_some r).2)
      · exact .inr ⟨o, by rw [mask_out hb.1]; exact (mask_some r).2⟩
  refine ⟨⟨hl.trans S.len, fun a ha => List.mem_append_right _ (S.sub a ha), fun a ha => ?_, fun a ha => ?_, S.nd, fun i hi q => ?_, S.own, frm, fun a ha => (fx a (S.sub a ha)).trans (S.frh a ha), fun a ha => gro a (S.gro a ha), S.io, S.pin, fun j d hj e => ?_, fun j hj => ?_⟩,
    by rw [eM]; exact leh, fx⟩
  · rcases List.mem_append.mp ha with ha | ha
    · exact tt a ha
    · exact (S.trk a ha).of (fx a ha)
  · rcases List.mem_append.mp ha with ha | ha
    · exact .inr (h0 a ha)
    · exact S.tmp a ha
  · rcases List.mem_append.mp q with q | q
    · obtain ⟨d, _, _, c⟩ := S.ow i hi
      exact c.trk (tn _ q)
    · exact S.dis i hi q
  · rw [hs j hj] at e
    obtain ⟨v, e1, r⟩ := S.sl j d hj e
    exact ⟨v, e1, by rw [eM]; exact r.mono leh⟩
  · obtain ⟨d, e1, e2, c⟩ := S.ow j hj
    rw [eM]
    rcases ho j hj with ⟨z1, z2⟩ | ⟨d', z1, z2⟩
    · exact ⟨d, z1.trans e1, e2, c.mono (fun o e => z2.trans e) leh⟩
    · exact ⟨d', z1, e2, z2⟩
end

/-! ## calls of defs -/
structure Fn (P : Program) (w : World) (K : PySem.W.Frag) (mg : Str → Option Value) (base : Heap) (ct : Str → Option Addr) (x : Str) (k n : Nat) (io : List Nat) (fr : Bool) (F : FSem) : Prop where
  ex : ∃ (f : Addr) (fd : FuncData) (ps : List Str), FnOk P w K mg base (L2.CX P w) k f fd ps (spF K ct n io fr F) ∧ mg x = some (.ref f) ∧ PySem.W.keepIn K (.ref f) = true ∧ Binds K fd ps []
def frR (ρ : Env) : FR → R D
  | .ok d _ => .ok d ρ
  | .exn e _ => .exn e ρ
  | .bad => .bad
def frR1 (i : Nat) (ρ : Env) : FR → R D
  | .ok d [c] => .ok d (ρ.set i (some c))
  | .exn e [c] => .exn e (ρ.set i (some c))
  | _ => .bad
def mCall0 (F : FSem) (g : Env → R (List D)) : Env → R D := fun ρ => (g ρ).bind fun ds ρ1 => frR ρ1 (F ds)
def mCall1 (F : FSem) (p i : Nat) (g : Env → R (List D)) : Env → R D := fun ρ => (g ρ).bind fun ds ρ1 => match ρ1.getD i none with
  | some c => frR1 i ρ1 (F (ds.set p c))
  | none => .bad
theorem RVs.at {g : Gx} {H : Hp} {ds : List D} {vs : List V} (r : RVs g H ds vs) : ∀ (i : Nat) (d : D), ds[i]? = some d → ∃ v, vs[i]? = some v ∧ RV g H d v := fun i d e => r.get e
theorem val_trk {g : Gx} {H : Hp} {M tm : List Addr} {b : Bool} {d : D} {v : V} (h : Val g H M b d v tm) : ∀ a ∈ tm, Hd H a := by
  cases h with
  | fz _ _ => exact fun _ z => nomatch z
  | fr c => intro a ha; rw [List.mem_singleton.mp ha]; exact c.hd

section
variable {X : Cx} {C : Ac} {W : WX} {Γ Γ1 Γ' : List Nat} {fr : Bool} {e : Expr} {es : List Expr} {g : Env → R (List D)} {x : Str} {p pos : Pos} {k n : Nat} {F : FSem}
/-- what the callee's promise asks, from the caller's state (no parameter is changed) -/
theorem sp_call0 {hid tm : List Addr} {ρ1 : Env} {σ : L2.St} {H H1 : Hp} {Q : VK} {ds : List D} {vs : List V} (hn : n = ds.length)
    (S1 : ST X.K C (tm ++ hid) Γ' ρ1 σ H1) (hs : ∀ a ∈ C.hid, a ∈ hid) (k1 : Stp (Ms σ hid Γ) (Ms σ (tm ++ hid) Γ') hid H H1) (t1 : ∀ a ∈ tm, a ∉ Ms σ hid Γ') (ks : Kepts (gx X.K C) H1 (Ms σ (tm ++ hid) Γ') tm ds vs)
    (hio : okG C.io C.io Γ' = true) (q : PostE X.K C W Γ Γ' fr hid σ H Q (frR ρ1 (F ds))) : spF X.K C.ct n [] fr F vs H1 Q (WE W σ) := by
  have sub : ∀ b ∈ Ms σ hid Γ', b ∈ Ms σ (tm ++ hid) Γ' := Ms_subH fun a ha => List.mem_append_right _ ha
  have S2 := S1.forget (fun a ha => List.mem_append_right _ ha) hs
  have rv : RVs (gx X.K C) (mask H1 (Ms σ hid Γ')) ds vs := ks.rv sub t1
  have k2 : Stp (Ms σ hid Γ) (Ms σ hid Γ') hid H H1 := ⟨k1.le.trans (.of_same (mask_sub sub)), k1.fx⟩
  refine ⟨ds, Ms σ hid Γ', [], ks.length ▸ hn.symm, ⟨ks.length, rfl, List.nodup_nil, (fun _ z => nomatch z), S2.hdM, fun i d _ e => ?_, (fun i z => nomatch z)⟩, ?_⟩
  · rw [List.append_nil]; exact rv.at i d e
  · -- behind the call
    have go : ∀ {outs : List D} {tm' : List Addr} {H' : Hp}, CEnd (gx X.K C) [] vs H1 (Ms σ hid Γ') [] outs tm' H' → (∀ a ∈ tm', Hd H' a) → ST X.K C (tm' ++ hid) Γ' ρ1 σ H' ∧ Stp (Ms σ hid Γ') (Ms σ (tm' ++ hid) Γ') hid H1 H' := by
      intro outs tm' H' c tt
      have le := c.le
      rw [List.append_nil] at le
      exact S2.goes le (fun a ha => c.fx a (mem_Ms.mpr (.inl ha))) c.gro c.tn tt rfl (fun _ _ => rfl) fun j hj => .inl ⟨rfl, c.fx _ (mem_Ms.mpr (.inr ⟨j, hj, rfl⟩))⟩
    cases qq : F ds with
    | bad => rw [qq] at q; exact q
    | exn e outs =>
      rw [qq] at q
      intro cls od H' c xr
      obtain ⟨S3, _⟩ := go c fun _ z => nomatch z
      obtain ⟨h1, h2, h3⟩ := okG_of hio
      have S4 : ST X.K C C.hid C.io ρ1 σ H' := (ST.forget S3 (hid' := C.hid) (fun a ha => hs a ha) fun _ z => z).weak h1 h2 h3
      refine q cls od H' ?_ S4
      rw [List.append_nil] at xr
      obtain ⟨Cc, x1, x2, x3⟩ := xr
      refine ⟨Cc, x1, x2, ?_⟩
      cases qf : e.fld with
      | none => rw [qf] at x3; exact x3
      | some d =>
        rw [qf] at x3
        obtain ⟨dd, f, v, y1, y2, y3⟩ := x3
        exact ⟨dd, f, v, y1, y2, y3.mono (.of_same (mask_sub fun a ha => by
          rcases mem_Ms.mp ha with z | ⟨j, hj, z⟩
          · exact mem_Ms.mpr (.inl (hs a z))
          · exact mem_Ms.mpr (.inr ⟨j, h1 j hj, z⟩)))⟩
    | ok d outs =>
      rw [qq] at q
      intro v H' tm' c va
      obtain ⟨S3, k3⟩ := go c (val_trk va)
      refine q v H' tm' S3 (k2.trans k3 fun _ z => z) ?_ fun a ha z => S2.none_out (c.tn a ha) z
      rw [List.append_nil] at va
      have eM : Ms σ (tm' ++ hid) Γ' = tm' ++ Ms σ hid Γ' := by unfold Ms; rw [List.append_assoc]
      rw [eM]; exact va
theorem call0_tE {t : TE} {σ : L2.St} {H : Hp} {Q : VK} (ha : SA X C W Γ es Γ' g) (hn : n = es.length) (hio : okG C.io C.io Γ' = true) (p : tE X.K C W Γ Γ' fr (mCall0 F g) σ H Q) :
    tAs X.K C W Γ Γ' g σ H fun vs H1 => spF X.K C.ct n [] fr F vs H1 Q (WE W σ) := by
  obtain ⟨hid, ρ, S, p⟩ := p
  refine ⟨hid, ρ, S, ?_⟩
  unfold mCall0 at p
  cases q : g ρ with
  | bad => rw [q] at p; exact p
  | exn e ρ' => rw [q] at p; exact p
  | ok ds ρ1 =>
    rw [q] at p
    exact fun vs H1 tm S1 k1 t1 ks => sp_call0 (by rw [ha.len _ _ _ q]; exact hn) S1 S.sub k1 t1 ks hio p
/-- f(e, ..) of a def that changes no argument -/
theorem se_call0 (G : Fn X.prog X.w X.K X.mg X.base C.ct x k n [] fr F) (tk : Takes X W) (hr : Room k X.A) (ha : SA X C W Γ (e :: es) Γ' g) (hn : n = (e :: es).length := by rfl) (hg : Gl X x := by rfl) (hio : okG C.io C.io Γ' = true := by rfl) (hdb : (x == ("__debug__" : Str)) = false := by decide)
    (he : starEach (e :: es) X.env = (false, eval e X.env) :: starEach es X.env := by rfl) (hpl : (backTo pos (starEach es X.env)).any (·.1) = false := by rfl) : SE X C W Γ (.Call (.Name x p) (e :: es) [] pos) Γ' fr (mCall0 F g) := by
  obtain ⟨f, fd, ps, G, hm, hk, hb⟩ := G.ex
  exact ⟨peImp (pe_callS G hr hg hm hk hb (passAt tk) ha.pa hdb he hpl) fun σ H Q p => call0_tE (t := fun _ _ _ => True) ha hn hio p⟩

/-! ### an argument that is changed -/
inductive K1 (g : Gx) (H : Hp) (M tm : List Addr) (a : Addr) : Nat → List D → List V → Prop where
  | here {d : D} {ds : List D} {vs : List V} : Kepts g H M tm ds vs → K1 g H M tm a 0 (d :: ds) (.ref a :: vs)
  | cons {p : Nat} {d : D} {v : V} {ds : List D} {vs : List V} : Kept g H M tm d v → K1 g H M tm a p ds vs → K1 g H M tm a (p + 1) (d :: ds) (v :: vs)
def PostA1 (K : PySem.W.Frag) (C : Ac) (W : WX) (p i : Nat) (Γ Γ' : List Nat) (hid : List Addr) (σ : L2.St) (H : Hp) (Q : List V → Hp → Prop) : R (List D) → Prop
  | .ok ds ρ' => ∀ vs H' tm, ST K C (tm ++ hid) Γ' ρ' σ H' → Stp (Ms σ hid Γ) (Ms σ (tm ++ hid) Γ') hid H H' → (∀ a ∈ tm, a ∉ Ms σ hid Γ') → K1 (gx K C) H' (Ms σ (tm ++ hid) Γ') tm (sa σ i) p ds vs → Q vs H'
  | .exn e ρ' => ∀ cls od H', ExR (gx K C) H' (mask H' (Ms σ C.hid C.io)) e cls od → ST K C C.hid C.io ρ' σ H' → W cls od σ H'
  | .bad => False
structure SA1 (X : Cx) (C : Ac) (W : WX) (p i : Nat) (Γ : List Nat) (es : List Expr) (Γ' : List Nat) (f : Env → R (List D)) : Prop where
  pa : PA X es fun σ H Q => ∃ hid ρ, ST X.K C hid Γ ρ σ H ∧ PostA1 X.K C W p i Γ Γ' hid σ H Q (f ρ)
  len : ∀ ρ ds ρ', f ρ = .ok ds ρ' → ds.length = es.length
def mIo (g : Env → R (List D)) : Env → R (List D) := fun ρ => (g ρ).bind fun ds ρ' => .ok (.non :: ds) ρ'
theorem sa_io (i : Nat) {y : Str} {yp : Pos} (hr : SA X C W Γ es Γ' g) (hN : X.N[i]? = some y := by rfl) (hv : Vis X.env.scope y := by first | exact Or.inl rfl | exact Or.inr (Or.inl rfl) | exact Or.inr (Or.inr rfl)) (hi : Γ.contains i = true := by rfl)
    (hd : (y == ("__debug__" : Str)) = false := by decide) (hcd : (y == ("__classdict__" : Str)) = false := by decide) (hs : starEach (.Name y yp :: es) X.env = (false, eval (.Name y yp) X.env) :: starEach es X.env := by rfl) : SA1 X C W 0 i Γ (.Name y yp :: es) Γ' (mIo g) := by
  refine ⟨paImp (pa_cons (pe_var hN hv hd hcd) hr.pa hs) fun σ H Q ⟨hid, ρ, S, p⟩ => ?_, fun ρ ds ρ' e => ?_⟩
  · obtain ⟨d, e1, e2, c⟩ := S.ow i (List.contains_iff_mem.mp hi)
    refine ⟨_, e2, hid, ρ, S, ?_⟩
    unfold mIo at p
    cases q : g ρ with
    | bad => rw [q] at p; exact p
    | exn e ρ' => rw [q] at p; exact p
    | ok ds ρ1 =>
      rw [q] at p
      exact fun vs H1 tm S1 k1 t1 ks => p _ H1 tm S1 k1 t1 (.here ks)
  · unfold mIo at e
    cases q : g ρ with
    | bad => rw [q] at e; exact nomatch e
    | exn x ρ' => rw [q] at e; exact nomatch e
    | ok ds2 ρ2 =>
      rw [q] at e
      cases e
      rw [List.length_cons, List.length_cons, hr.len _ _ _ q]
theorem sa1_cons {a : Expr} {fr1 : Bool} {f : Env → R D} {p i : Nat} (ha : SE X C W Γ a Γ1 fr1 f) (hr : SA1 X C W p i Γ1 es Γ' g) (hs : starEach (a :: es) X.env = (false, eval a X.env) :: starEach es X.env := by rfl) : SA1 X C W (p + 1) i Γ (a :: es) Γ' (mCons f g) := by
  refine ⟨paImp (pa_cons ha.pe hr.pa hs) fun σ H Q ⟨hid, ρ, S, p⟩ => ⟨hid, ρ, S, ?_⟩, fun ρ ds ρ' e => ?_⟩
  · unfold mCons at p
    cases q : f ρ with
    | bad => rw [q] at p; exact p
    | exn e ρ' => rw [q] at p; exact p
    | ok d ρ1 =>
      rw [q] at p
      dsimp only [R.bind] at p
      intro v H1 tm1 S1 k1 va t1
      refine ⟨tm1 ++ hid, ρ1, S1, ?_⟩
      cases q2 : g ρ1 with
      | bad => rw [q2] at p; exact p
      | exn e ρ' => rw [q2] at p; exact p
      | ok ds ρ2 =>
        rw [q2] at p
        dsimp only at p
        intro vs H2 tm2 S2 k2 t2 ks
        have e : tm2 ++ (tm1 ++ hid) = (tm2 ++ tm1) ++ hid := (List.append_assoc ..).symm
        rw [e] at S2 k2 ks
        have upk : ∀ {d : D} {v : V}, Kept (gx X.K C) H2 (Ms σ ((tm2 ++ tm1) ++ hid) Γ') tm2 d v → Kept (gx X.K C) H2 (Ms σ ((tm2 ++ tm1) ++ hid) Γ') (tm2 ++ tm1) d v := by
          intro d v k
          rcases k with r | ⟨a, ha, r⟩
          · exact .inl r
          · exact .inr ⟨a, List.mem_append_left _ ha, r⟩
        have ups : ∀ {ds : List D} {vs : List V}, Kepts (gx X.K C) H2 (Ms σ ((tm2 ++ tm1) ++ hid) Γ') tm2 ds vs → Kepts (gx X.K C) H2 (Ms σ ((tm2 ++ tm1) ++ hid) Γ') (tm2 ++ tm1) ds vs := by
          intro ds vs h
          induction h with
          | nil => exact .nil
          | cons k _ ih => exact .cons (upk k) ih
        have up1 : ∀ {p : Nat} {ds : List D} {vs : List V}, K1 (gx X.K C) H2 (Ms σ ((tm2 ++ tm1) ++ hid) Γ') tm2 (sa σ i) p ds vs → K1 (gx X.K C) H2 (Ms σ ((tm2 ++ tm1) ++ hid) Γ') (tm2 ++ tm1) (sa σ i) p ds vs := by
          intro p ds vs h
          induction h with
          | here k => exact .here (ups k)
          | cons k _ ih => exact .cons (upk k) ih
        refine p (v :: vs) H2 (tm2 ++ tm1) S2 (k1.trans k2 fun a ha => List.mem_append_right _ ha) (fun a ha z => ?_) (.cons ((Kept.of va).stp k2 fun a ha => List.mem_append_right _ ha) (up1 ks))
        rcases List.mem_append.mp ha with ha | ha
        · exact t2 a ha (Ms_subH (fun b hb => List.mem_append_right _ hb) a z)
        · rcases mem_Ms.mp z with z | ⟨i, hi, rfl⟩
          · exact t1 a ha (mem_Ms.mpr (.inl z))
          · exact S2.dis i hi (List.mem_append_left _ (List.mem_append_right _ ha))
  · unfold mCons at e
    cases q : f ρ with
    | bad => rw [q] at e; exact nomatch e
    | exn x ρ' => rw [q] at e; exact nomatch e
    | ok d ρ1 =>
      rw [q] at e
      dsimp only [R.bind] at e
      cases q2 : g ρ1 with
      | bad => rw [q2] at e; exact nomatch e
      | exn x ρ' => rw [q2] at e; exact nomatch e
      | ok ds2 ρ2 =>
        rw [q2] at e
        cases e
        rw [List.length_cons, List.length_cons, hr.len _ _ _ q2]
theorem K1.len {g : Gx} {H : Hp} {M tm : List Addr} {a : Addr} {p : Nat} {ds : List D} {vs : List V} (h : K1 g H M tm a p ds vs) : ds.length = vs.length := by
  induction h with
  | here k => rw [List.length_cons, List.length_cons, k.length]
  | cons _ _ ih => rw [List.length_cons, List.length_cons, ih]
theorem K1.at {g : Gx} {H : Hp} {M tm : List Addr} {a : Addr} {p : Nat} {ds : List D} {vs : List V} (h : K1 g H M tm a p ds vs) : vs[p]? = some (.ref a) := by
  induction h with
  | here k => rfl
  | cons _ _ ih => simpa using ih
theorem K1.lt {g : Gx} {H : Hp} {M tm : List Addr} {a : Addr} {p : Nat} {ds : List D} {vs : List V} (h : K1 g H M tm a p ds vs) : p < ds.length := by
  induction h with
  | here k => simp
  | cons _ _ ih => simpa using ih
theorem K1.rv {g : Gx} {H : Hp} {M M' tm : List Addr} {a : Addr} {p : Nat} {ds : List D} {vs : List V} (s : ∀ a ∈ M', a ∈ M) (ht : ∀ a ∈ tm, a ∉ M') (h : K1 g H M tm a p ds vs) : ∀ (j : Nat) (d : D), j ≠ p → ds[j]? = some d → ∃ v, vs[j]? = some v ∧ RV g (mask H M') d v := by
  induction h with
  | here k =>
    intro j d hj e
    cases j with
    | zero => exact absurd rfl hj
    | succ j =>
      obtain ⟨v, h1, h2⟩ := (k.rv s ht).get (i := j) (d := d) (by simpa using e)
      exact ⟨v, by simpa using h1, h2⟩
  | cons k _ ih =>
    intro j d hj e
    cases j with
    | zero =>
      have : _ = d := Option.some.inj e
      subst this
      exact ⟨_, rfl, k.rv s ht⟩
    | succ j =>
      obtain ⟨v, h1, h2⟩ := ih j d (fun z => hj (by rw [z])) (by simpa using e)
      exact ⟨v, by simpa using h1, h2⟩
theorem sp_call1 {p i : Nat} {hid tm : List Addr} {ρ1 : Env} {σ : L2.St} {H H1 : Hp} {Q : VK} {ds : List D} {vs : List V} {c0 : D} (hn : n = ds.length) (hi : i ∈ Γ') (hc : ρ1.getD i none = some c0)
    (S1 : ST X.K C (tm ++ hid) Γ' ρ1 σ H1) (hs : ∀ a ∈ C.hid, a ∈ hid) (k1 : Stp (Ms σ hid Γ) (Ms σ (tm ++ hid) Γ') hid H H1) (t1 : ∀ a ∈ tm, a ∉ Ms σ hid Γ') (ks : K1 (gx X.K C) H1 (Ms σ (tm ++ hid) Γ') tm (sa σ i) p ds vs)
    (hio : okG C.io C.io Γ' = true) (q : PostE X.K C W Γ Γ' fr hid σ H Q (frR1 i ρ1 (F (ds.set p c0)))) : spF X.K C.ct n [p] fr F vs H1 Q (WE W σ) := by
  have sub : ∀ b ∈ Ms σ hid Γ', b ∈ Ms σ (tm ++ hid) Γ' := Ms_subH fun a ha => List.mem_append_right _ ha
  have S2 := S1.forget (fun a ha => List.mem_append_right _ ha) hs
  have k2 : Stp (Ms σ hid Γ) (Ms σ hid Γ') hid H H1 := ⟨k1.le.trans (.of_same (mask_sub sub)), k1.fx⟩
  have hM : sa σ i ∈ Ms σ hid Γ' := mem_Ms.mpr (.inr ⟨i, hi, rfl⟩)
  have eq : ∀ a, a ∈ ((Ms σ hid Γ').filter fun b => decide (b ≠ sa σ i)) ++ [sa σ i] ↔ a ∈ Ms σ hid Γ' := fun a => by
    simp only [List.mem_append, List.mem_filter, List.mem_singleton, decide_eq_true_eq]
    constructor
    · rintro (h | h)
      · exact h.1
      · rw [h]; exact hM
    · intro h
      by_cases z : a = sa σ i
      · exact .inr z
      · exact .inl ⟨h, z⟩
  have em : ∀ A : Hp, mask A (((Ms σ hid Γ').filter fun b => decide (b ≠ sa σ i)) ++ [sa σ i]) = mask A (Ms σ hid Γ') := fun A => mask_congr eq
  obtain ⟨d0, e1, e2, cc⟩ := S2.ow i hi
  have e1' := getD_some hc
  rw [e1] at e1'; cases e1'
  have pl : p < ds.length := ks.lt
  refine ⟨ds.set p c0, (Ms σ hid Γ').filter fun b => decide (b ≠ sa σ i), [sa σ i], ks.len ▸ hn.symm, ⟨by rw [List.length_set]; exact ks.len, by rw [List.map_singleton, List.map_singleton, ks.at], by simp, fun a ha z => ?_, fun a ha => S2.hdM a (List.mem_filter.mp ha).1, fun j d hj e => ?_, fun j hj => ?_⟩, ?_⟩
  · rw [List.mem_singleton.mp ha] at z
    have := (List.mem_filter.mp z).2
    simp at this
  · have hjp : j ≠ p := fun z => hj (by simp [z])
    rw [List.getElem?_set_ne (Ne.symm hjp)] at e
    rw [em]
    exact ks.rv sub t1 j d hjp e
  · rw [List.mem_singleton.mp hj]
    exact ⟨c0, sa σ i, List.getElem?_set_self pl, ks.at, by rw [em]; exact cc⟩
  · have il : i < ρ1.length := (List.getElem?_eq_some_iff.mp e1).1
    have go : ∀ {outs : List D} {tm' : List Addr} {H' : Hp}, CEnd (gx X.K C) [p] vs H1 ((Ms σ hid Γ').filter fun b => decide (b ≠ sa σ i)) [sa σ i] outs tm' H' → (∀ a ∈ tm', Hd H' a) →
        ∃ c, outs = [c] ∧ ST X.K C (tm' ++ hid) Γ' (ρ1.set i (some c)) σ H' ∧ Stp (Ms σ hid Γ') (Ms σ (tm' ++ hid) Γ') hid H1 H' := by
      intro outs tm' H' c tt
      have le := c.le
      rw [em, em] at le
      obtain ⟨c1, rfl⟩ : ∃ c1, outs = [c1] := by
        have := c.olen
        match outs, this with
        | [c1], _ => exact ⟨c1, rfl⟩
      have fx : ∀ a ∈ Ms σ hid Γ', a ≠ sa σ i → H' a = H1 a := fun a ha hne => c.fx a (List.mem_filter.mpr ⟨ha, by simpa using hne⟩)
      refine ⟨c1, rfl, S2.goes le (fun a ha => fx a (mem_Ms.mpr (.inl ha)) fun z => S2.dis i hi (z ▸ ha)) c.gro c.tn tt (List.length_set ..) (fun j hj => List.getElem?_set_ne (nem hj hi)) fun j hj => ?_⟩
      by_cases z : j = i
      · subst z
        obtain ⟨a, ea, ca⟩ := c.own 0 p c1 rfl rfl
        rw [ks.at] at ea
        have ea' : sa σ j = a := by
          have := Option.some.inj ea
          injection this
        subst ea'
        refine .inr ⟨c1, List.getElem?_set_self il, ca.mono (fun _ z => z) (.of_same (mask_sub fun b hb => ?_))⟩
        rcases List.mem_append.mp hb with hb | hb
        · exact List.mem_append_left _ hb
        · exact List.mem_append_right _ ((eq b).mpr hb)
      · exact .inl ⟨List.getElem?_set_ne (Ne.symm z), fx _ (mem_Ms.mpr (.inr ⟨j, hj, rfl⟩)) fun e => z (S2.inj hj hi e)⟩
    cases qq : F (ds.set p c0) with
    | bad => rw [qq] at q; exact q
    | exn e outs =>
      rw [qq] at q
      intro cls od H' c xr
      obtain ⟨c1, rfl, S3, _⟩ := go c fun _ z => nomatch z
      obtain ⟨h1, h2, h3⟩ := okG_of hio
      have S4 : ST X.K C C.hid C.io (ρ1.set i (some c1)) σ H' := (ST.forget S3 (hid' := C.hid) (fun a ha => hs a ha) fun _ z => z).weak h1 h2 h3
      refine q cls od H' ?_ S4
      rw [em] at xr
      obtain ⟨Cc, x1, x2, x3⟩ := xr
      refine ⟨Cc, x1, x2, ?_⟩
      cases qf : e.fld with
      | none => rw [qf] at x3; exact x3
      | some d =>
        rw [qf] at x3
        obtain ⟨dd, f, v, y1, y2, y3⟩ := x3
        exact ⟨dd, f, v, y1, y2, y3.mono (.of_same (mask_sub fun a ha => by
          rcases mem_Ms.mp ha with z | ⟨j, hj, z⟩
          · exact mem_Ms.mpr (.inl (hs a z))
          · exact mem_Ms.mpr (.inr ⟨j, h1 j hj, z⟩)))⟩
    | ok d outs =>
      rw [qq] at q
      intro v H' tm' c va
      obtain ⟨c1, rfl, S3, k3⟩ := go c (val_trk va)
      refine q v H' tm' S3 (k2.trans k3 fun _ z => z) ?_ fun a ha z => S2.none_out (c.tn a ha) z
      have eM : Ms σ (tm' ++ hid) Γ' = tm' ++ Ms σ hid Γ' := by unfold Ms; rw [List.append_assoc]
      have em2 : mask H' (tm' ++ (((Ms σ hid Γ').filter fun b => decide (b ≠ sa σ i)) ++ [sa σ i])) = mask H' (tm' ++ Ms σ hid Γ') := mask_congr fun a => by
        rw [List.mem_append, eq, List.mem_append]
      rw [eM]
      cases va with
      | fz r hv => exact .fz (by rw [← em2]; exact r) hv
      | fr cx => exact .fr (cx.mono (fun _ z => z) (by rw [← em2]; exact .refl _))
/-- f(.., x, ..) of a def that changes its argument number p, the owned name i -/
theorem se_call1 {q i : Nat} (G : Fn X.prog X.w X.K X.mg X.base C.ct x k n [q] fr F) (tk : Takes X W) (hr : Room k X.A) (ha : SA1 X C W q i Γ (e :: es) Γ' g) (hn : n = (e :: es).length := by rfl) (hi : Γ'.contains i = true := by rfl) (hg : Gl X x := by rfl) (hio : okG C.io C.io Γ' = true := by rfl) (hdb : (x == ("__debug__" : Str)) = false := by decide)
    (he : starEach (e :: es) X.env = (false, eval e X.env) :: starEach es X.env := by rfl) (hpl : (backTo pos (starEach es X.env)).any (·.1) = false := by rfl) : SE X C W Γ (.Call (.Name x p) (e :: es) [] pos) Γ' fr (mCall1 F q i g) := by
  obtain ⟨f, fd, ps, G, hm, hk, hb⟩ := G.ex
  refine ⟨peImp (pe_callS G hr hg hm hk hb (passAt tk) ha.pa hdb he hpl) fun σ H Q ⟨hid, ρ, S, p⟩ => ⟨hid, ρ, S, ?_⟩⟩
  unfold mCall1 at p
  cases q : g ρ with
  | bad => rw [q] at p; exact p
  | exn e ρ' => rw [q] at p; exact p
  | ok ds ρ1 =>
    rw [q] at p
    dsimp only [R.bind] at p
    intro vs H1 tm S1 k1 t1 ks
    cases qc : ρ1.getD i none with
    | none => rw [qc] at p; exact p.elim
    | some c0 =>
      rw [qc] at p
      exact sp_call1 (by rw [ha.len _ _ _ q]; exact hn) (List.contains_iff_mem.mp hi) qc S1 S.sub k1 t1 ks hio p
end
end Ip
namespace Ip
open PySem L2 PySem.Spec PyProof.Rows

/-! ## methods, constructors, attributes -/
section
variable {X : Cx} {CX : CXT} {k : Nat} {f Cc : Addr} {fd : FuncData} {ps : List Str} {sp : Sp} {E : L2.St → XK} {x m : Str} {p pos apos : Pos} {e o : Expr} {es : List Expr} {ta : TE} {t : TA}
/-- o.m(e, ..): the class is told by the object -/
theorem pe_methD {pl : Sem Bool} (he : PE X o ta) (ha : PA X (e :: es) t)
    (hst : starEach (e :: es) X.env = (false, eval e X.env) :: starEach es X.env := by rfl) (hpl : (backTo pos (starEach es X.env)).any (·.1) = false := by rfl)
    (ht : eval (.Call (.Attribute o m apos) (e :: es) [] pos) X.env = (do
      let ov ← eval o X.env
      standAt apos.atName
      let (f, first) ← holding [ov] (getMethod ov m pl)
      callWith pos f first (backTo pos (starEach (e :: es) X.env)) (backToKw pos (keywordEach [] X.env))) := by rfl) :
    PE X (.Call (.Attribute o m apos) (e :: es) [] pos) (fun σ H Q => ta σ H fun x H1 => ∃ (a dx Cc f : Addr) (fs : List (Str × V)) (k : Nat) (fd : FuncData) (ps : List Str) (sp : Sp) (E : XK), x = .ref a ∧ H1 a = some (.ins Cc dx fs) ∧ fs.lookup m = none ∧ Cls X.K Cc ∧ Meth X.K Cc m f ∧
      FnOk X.prog X.w X.K X.mg X.base (L2.CX X.prog X.w) k f fd ps sp ∧ Room k X.A ∧ Binds X.K fd ps [] ∧ PassesAt (L2.CX X.prog X.w) X σ E ∧ t σ H1 fun vs H2 => sp (x :: vs) H2 Q E) := by
  refine ⟨fun pins s σ H Q I h => ?_⟩
  refine PySem.W.methodCall_KW (pl := pl) (thn (he.run pins s σ H _ I h) fun u s1 ⟨x, H1, I1, rx, a, dx, Cc, f, fs, k, fd, ps, sp, E, ex, ea, l, c, hm, F, hr, hb, hx, q⟩ => ?_) ht
  subst ex
  obtain rfl : u = Value.ref a := rx
  refine getmeth_ok I1 ea c hm l ?_
  refine PySem.W.callWith_K (first := [.ref a]) (h₀ := X.base) I.ok.mod.kin hm.kp (thn (ha.run pos pins s1 σ H1 _ I1 q) fun us s2 ⟨vs, H2, I2, r, q2⟩ => ⟨I2.kIn, ?_⟩) hst hpl
  exact run_fnS (E := fun _ => E) (us := .ref a :: us) (vs := .ref a :: vs) F hr hb hx I2 (.cons rfl r) q2
theorem pe_methD0 {pl : Sem Bool} (he : PE X o ta)
    (ht : eval (.Call (.Attribute o m apos) [] [] pos) X.env = (do
      let ov ← eval o X.env
      standAt apos.atName
      let (f, first) ← holding [ov] (getMethod ov m pl)
      callWith pos f first (backTo pos (starEach [] X.env)) (backToKw pos (keywordEach [] X.env))) := by rfl) :
    PE X (.Call (.Attribute o m apos) [] [] pos) (fun σ H Q => ta σ H fun x H1 => ∃ (a dx Cc f : Addr) (fs : List (Str × V)) (k : Nat) (fd : FuncData) (ps : List Str) (sp : Sp) (E : XK), x = .ref a ∧ H1 a = some (.ins Cc dx fs) ∧ fs.lookup m = none ∧ Cls X.K Cc ∧ Meth X.K Cc m f ∧
      FnOk X.prog X.w X.K X.mg X.base (L2.CX X.prog X.w) k f fd ps sp ∧ Room k X.A ∧ Binds X.K fd ps [] ∧ PassesAt (L2.CX X.prog X.w) X σ E ∧ sp [x] H1 Q E) := by
  refine ⟨fun pins s σ H Q I h => ?_⟩
  refine PySem.W.methodCall_KW (pl := pl) (thn (he.run pins s σ H _ I h) fun u s1 ⟨x, H1, I1, rx, a, dx, Cc, f, fs, k, fd, ps, sp, E, ex, ea, l, c, hm, F, hr, hb, hx, q⟩ => ?_) ht
  subst ex
  obtain rfl : u = Value.ref a := rx
  refine getmeth_ok I1 ea c hm l ?_
  exact PySem.W.callWith_K0 (first := [.ref a]) I1.kIn hm.kp (run_fnS (E := fun _ => E) (us := [.ref a]) (vs := [.ref a]) F hr hb hx I1 (.cons rfl .nil) q)
theorem run_makeS {pins : List (Addr × Obj)} {σ : L2.St} {H : Hp} {s : Shared} {Q : VK} {us : List Value} {vs : List V} (M : Mk X.K Cc f) (F : FnOk X.prog X.w X.K X.mg X.base (L2.CX X.prog X.w) k f fd ps sp) (hr : Room (k + 1) X.A) (hb : Binds X.K fd ps [])
    (hx : PassesAt (L2.CX X.prog X.w) X σ (E σ)) (I : Inv X pins σ H s) (r : Vals vs us)
    (h : ∀ x dx, H x = none → H dx = none → dx ≠ x → sp (.ref x :: vs) (upd (upd H dx (.own x)) x (.ins Cc dx [])) (fun v H2 => v = .non ∧ Q (.ref x) H2) (E σ)) :
    wpAny (model X.prog X.w) X.A (call (.ref Cc) us) (EP X pins σ Q) X.xe s := by
  have hq := h (s.heap.objs.size + 1) s.heap.objs.size (I.hok.fresh (Nat.le_succ _)) (I.hok.fresh (Nat.le_refl _)) (Nat.ne_of_lt (Nat.lt_succ_self _))
  have I2 := Inv.made (C := Cc) I
  have r2 : Vals (V.ref (s.heap.objs.size + 1) :: vs) (Value.ref (s.heap.objs.size + 1) :: us) := .cons rfl r
  have hl : (Value.ref (s.heap.objs.size + 1) :: us ++ []).length = ps.length := by
    rw [List.append_nil, ← r2.length]
    exact F.len _ _ _ _ hq
  have hbb := hb _ (Value.ref (s.heap.objs.size + 1) :: us) I2.kIn hl
  rw [List.append_nil] at hbb
  refine wpAny_call (make_map (f := f) I.kIn M.makes M.init (beq_iff_eq.mp M.fn) (codeAny_mono (F.run _ X.stack _ _ ⟨Value.ref (s.heap.objs.size + 1) :: us, []⟩ (Value.ref (s.heap.objs.size + 1) :: us) _ _ (E σ) (hr.make Cc us [])
    (I2.env0.make Cc us []) hbb r2 hq) fun r s' hq' => ?_))
  cases r with
  | error e => exact hx pins _ _ e s' I2 hq'
  | ok fl =>
    cases fl with
    | ret u =>
      obtain ⟨v, H', I3, rv, ev, q3⟩ := I2.after hq'
      subst ev
      exact ⟨rv, ⟨V.ref (s.heap.objs.size + 1), H', I3, rfl, q3⟩⟩
    | next => exact False.elim hq'
    | brk => exact False.elim hq'
    | cont => exact False.elim hq'
theorem pe_makeE (M : Mk X.K Cc f) (F : FnOk X.prog X.w X.K X.mg X.base (L2.CX X.prog X.w) k f fd ps sp) (hr : Room (k + 1) X.A) (hg : Gl X x) (hm : X.mg x = some (.ref Cc)) (hb : Binds X.K fd ps []) (hx : ∀ σ, PassesAt (L2.CX X.prog X.w) X σ (E σ))
    (ha : PA X (e :: es) t) (hdb : (x == ("__debug__" : Str)) = false := by decide) (he : starEach (e :: es) X.env = (false, eval e X.env) :: starEach es X.env := by rfl) (hpl : (backTo pos (starEach es X.env)).any (·.1) = false := by rfl) :
    PE X (.Call (.Name x p) (e :: es) [] pos) (fun σ H Q => t σ H fun vs H1 => ∀ x dx, H1 x = none → H1 dx = none → dx ≠ x → sp (.ref x :: vs) (upd (upd H1 dx (.own x)) x (.ins Cc dx [])) (fun v H2 => v = .non ∧ Q (.ref x) H2) (E σ)) := by
  refine ⟨fun pins s σ H Q I h => ?_⟩
  refine wpAny_Call_Name_kw (ld_glob I hg hm ?_ hdb)
  refine PySem.W.callWith_K (h₀ := X.base) I.ok.mod.kin M.kp (thn (ha.run pos pins s σ H _ I h) fun us s1 ⟨vs, H1, I1, r, q⟩ => ⟨I1.kIn, ?_⟩) he hpl
  exact run_makeS M F hr hb (hx σ) I1 r q
end

/-- a method, found at each of the classes cs -/
structure Mt (P : Program) (w : World) (K : PySem.W.Frag) (mg : Str → Option Value) (base : Heap) (ct : Str → Option Addr) (c m : Str) (k n : Nat) (fr : Bool) (F : FSem) : Prop where
  ex : ∃ (Cc f : Addr) (fd : FuncData) (ps : List Str), ct c = some Cc ∧ Cls K Cc ∧ Meth K Cc m f ∧ FnOk P w K mg base (L2.CX P w) k f fd ps (spF K ct n [] fr F) ∧ Binds K fd ps []
structure Mkr (P : Program) (w : World) (K : PySem.W.Frag) (mg : Str → Option Value) (base : Heap) (ct : Str → Option Addr) (c : Str) (k n : Nat) (F : FSem) : Prop where
  ex : ∃ (Cc f : Addr) (fd : FuncData) (ps : List Str), ct c = some Cc ∧ mg c = some (.ref Cc) ∧ Mk K Cc f ∧ FnOk P w K mg base (L2.CX P w) k f fd ps (spF K ct n [0] false F) ∧ Binds K fd ps []
structure At (K : PySem.W.Frag) (ct : Str → Option Addr) (c f : Str) : Prop where
  ex : ∃ Cc : Addr, ct c = some Cc ∧ Cls K Cc ∧ NoAttr K Cc f
def clsOf : D → Option Str
  | .obj c _ _ => some c
  | _ => none
def hasNo (m : Str) : D → Bool
  | .obj _ ns _ => !ns.contains m
  | _ => false
def mMeth (cs : List Str) (m : Str) (F : FSem) (f : Env → R D) (g : Env → R (List D)) : Env → R D := fun ρ => (f ρ).bind fun o ρ1 => match clsOf o with
  | some c => if cs.contains c = true ∧ hasNo m o = true then (g ρ1).bind fun ds ρ2 => frR ρ2 (F (o :: ds)) else .bad
  | none => .bad
def fldD (f : Str) : D → Option D
  | .obj _ ns ds => (ns.zip ds).lookup f
  | _ => none
def mFld (cs : List Str) (n : Str) (f : Env → R D) : Env → R D := fun ρ => (f ρ).bind fun o ρ1 => match clsOf o with
  | some c => if cs.contains c = true then ofO ρ1 (fldD n o) else .bad
  | none => .bad
def frMk (ρ : Env) : FR → R D
  | .ok .non [o] => .ok o ρ
  | .exn e _ => .exn e ρ
  | _ => .bad
def mMake (c : Str) (F : FSem) (g : Env → R (List D)) : Env → R D := fun ρ => (g ρ).bind fun ds ρ1 => frMk ρ1 (F (.obj c [] [] :: ds))

theorem lookup_zip_none {α : Type} {m : Str} : ∀ {ns : List Str} {vs : List α}, ns.contains m = false → (ns.zip vs).lookup m = none
  | [], _, _ => rfl
  | n :: ns, [], _ => rfl
  | n :: ns, v :: vs, h => by
    rw [List.contains_cons, Bool.or_eq_false_iff] at h
    rw [List.zip_cons_cons, List.lookup_cons, h.1]
    exact lookup_zip_none h.2
theorem lookup_zip_rv {g : Gx} {H : Hp} {f : Str} {d : D} : ∀ {ns : List Str} {ds : List D} {vs : List V}, RVs g H ds vs → (ns.zip ds).lookup f = some d → ∃ v, (ns.zip vs).lookup f = some v ∧ RV g H d v
  | [], _, _, _, h => by simp at h
  | n :: ns, [], _, _, h => by simp at h
  | n :: ns, e :: ds, _, .cons (v := v) (vs := vs) r t, h => by
    rw [List.zip_cons_cons, List.lookup_cons] at h
    rw [List.zip_cons_cons, List.lookup_cons]
    cases q : f == n with
    | true => rw [q] at h; cases h; exact ⟨v, rfl, r⟩
    | false => rw [q] at h; exact lookup_zip_rv t h

section
variable {X : Cx} {C : Ac} {W : WX} {Γ Γ1 Γ' Γb : List Nat} {fr fr1 : Bool} {e o : Expr} {es : List Expr} {f : Env → R D} {g : Env → R (List D)} {x m c : Str} {cs : List Str} {p pos apos : Pos} {k n : Nat} {F : FSem}
theorem shal_obj {g : Gx} {H Hm : Hp} {o : D} {v : V} {c : Str} (h : Shal g H Hm o v) (hc : clsOf o = some c) : ∃ a Cc dx ns vs ds, o = .obj c ns ds ∧ v = .ref a ∧ H a = some (.ins Cc dx (ns.zip vs)) ∧ g.ct c = some Cc ∧ ns.length = vs.length ∧ RVs g Hm ds vs := by
  cases h with
  | obj h1 h2 h3 h4 =>
    cases hc
    exact ⟨_, _, _, _, _, _, rfl, rfl, h1, h2, h3, h4⟩
  | _ => cases hc
theorem meth_core {hid : List Addr} {ρ : Env} {σ : L2.St} {H : Hp} {Q : VK} {R0 : V → Hp → Prop}
    (p : tE X.K C W Γ Γ' fr (mMeth cs m F f g) σ H Q)
    (go : ∀ (c : Str) (o : D) (v : V) (H1 : Hp) (tm1 : List Addr) (hid : List Addr) (ρ1 : Env), cs.contains c = true → clsOf o = some c → hasNo m o = true → ST X.K C (tm1 ++ hid) Γ1 ρ1 σ H1 → (∀ a ∈ C.hid, a ∈ hid) → Stp (Ms σ hid Γ) (Ms σ (tm1 ++ hid) Γ1) hid H H1 →
      Val (gx X.K C) H1 (Ms σ (tm1 ++ hid) Γ1) fr1 o v tm1 → (∀ a ∈ tm1, a ∉ Ms σ hid Γ1) → PostE X.K C W Γ Γ' fr hid σ H Q ((g ρ1).bind fun ds ρ2 => frR ρ2 (F (o :: ds))) → R0 v H1) : tE X.K C W Γ Γ1 fr1 f σ H R0 := by
  obtain ⟨hid, ρ, S, p⟩ := p
  refine ⟨hid, ρ, S, ?_⟩
  unfold mMeth at p
  cases q : f ρ with
  | bad => rw [q] at p; exact p
  | exn e ρ' => rw [q] at p; exact p
  | ok o ρ1 =>
    rw [q] at p
    dsimp only [R.bind] at p
    intro v H1 tm1 S1 k1 va t1
    cases qc : clsOf o with
    | none => rw [qc] at p; exact p.elim
    | some c =>
      rw [qc] at p
      dsimp only at p
      by_cases hh : cs.contains c = true ∧ hasNo m o = true
      · rw [if_pos hh] at p
        exact go c o v H1 tm1 hid ρ1 hh.1 qc hh.2 S1 S.sub k1 va t1 p
      · rw [if_neg hh] at p; exact p.elim
/-- o.m(e, ..) -/
theorem se_meth {pl : Sem Bool} (G : ∀ c, cs.contains c = true → Mt X.prog X.w X.K X.mg X.base C.ct c m k n fr F) (tk : Takes X W) (hr : Room k X.A) (ho : SE X C W Γ o Γ1 fr1 f) (ha : SA X C W Γ1 (e :: es) Γ' g) (hn : n = (o :: e :: es).length := by rfl) (hio : okG C.io C.io Γ' = true := by rfl)
    (hst : starEach (e :: es) X.env = (false, eval e X.env) :: starEach es X.env := by rfl) (hpl : (backTo pos (starEach es X.env)).any (·.1) = false := by rfl)
    (ht : eval (.Call (.Attribute o m apos) (e :: es) [] pos) X.env = (do
      let ov ← eval o X.env
      standAt apos.atName
      let (f, first) ← holding [ov] (getMethod ov m pl)
      callWith pos f first (backTo pos (starEach (e :: es) X.env)) (backToKw pos (keywordEach [] X.env))) := by rfl) : SE X C W Γ (.Call (.Attribute o m apos) (e :: es) [] pos) Γ' fr (mMeth cs m F f g) := by
  refine ⟨peImp (pe_methD (pl := pl) ho.pe ha.pa hst hpl ht) fun σ H Q p => meth_core (hid := []) (ρ := []) p fun c od v H1 tm1 hid ρ1 hc qc hh S1 hs k1 va t1 p => ?_⟩
  obtain ⟨Cc, fa, fd, ps, e1, cl, mt, fn, bi⟩ := (G c hc).ex
  obtain ⟨a, Cc', dx, ns, vs, ds, rfl, rfl, h1, h2, h3, h4⟩ := shal_obj va.shal0 qc
  have e2 : Cc' = Cc := Option.some.inj (h2.symm.trans e1)
  subst e2
  have hno : (ns.zip vs).lookup m = none := lookup_zip_none (by simpa [hasNo] using hh)
  refine ⟨a, dx, Cc', fa, _, k, fd, ps, _, WE W σ, rfl, h1, hno, cl, mt, fn, hr, bi, passAt tk σ, tm1 ++ hid, ρ1, S1, ?_⟩
  cases q2 : g ρ1 with
  | bad => rw [q2] at p; exact p
  | exn e ρ' => rw [q2] at p; exact p
  | ok es2 ρ2 =>
    rw [q2] at p
    dsimp only [R.bind] at p
    intro us H2 tm2 S2 k2 t2 ks
    have e : tm2 ++ (tm1 ++ hid) = (tm2 ++ tm1) ++ hid := (List.append_assoc ..).symm
    rw [e] at S2 k2 ks
    have upk : ∀ {d : D} {v : V}, Kept (gx X.K C) H2 (Ms σ ((tm2 ++ tm1) ++ hid) Γ') tm2 d v → Kept (gx X.K C) H2 (Ms σ ((tm2 ++ tm1) ++ hid) Γ') (tm2 ++ tm1) d v := by
      intro d v k
      rcases k with r | ⟨a, ha, r⟩
      · exact .inl r
      · exact .inr ⟨a, List.mem_append_left _ ha, r⟩
    have ups : ∀ {ds : List D} {vs : List V}, Kepts (gx X.K C) H2 (Ms σ ((tm2 ++ tm1) ++ hid) Γ') tm2 ds vs → Kepts (gx X.K C) H2 (Ms σ ((tm2 ++ tm1) ++ hid) Γ') (tm2 ++ tm1) ds vs := by
      intro ds vs h
      induction h with
      | nil => exact .nil
      | cons k _ ih => exact .cons (upk k) ih
    refine sp_call0 (ds := .obj c ns ds :: es2) (by have := ha.len _ _ _ q2; simp only [List.length_cons] at this hn ⊢; omega) S2 hs (k1.trans k2 fun a ha => List.mem_append_right _ ha) (fun a ha z => ?_) (.cons ((Kept.of va).stp k2 fun a ha => List.mem_append_right _ ha) (ups ks)) hio p
    rcases List.mem_append.mp ha with ha | ha
    · exact t2 a ha (Ms_subH (fun b hb => List.mem_append_right _ hb) a z)
    · rcases mem_Ms.mp z with z | ⟨i, hi, rfl⟩
      · exact t1 a ha (mem_Ms.mpr (.inl z))
      · exact S2.dis i hi (List.mem_append_left _ (List.mem_append_right _ ha))
/-- o.m() -/
theorem se_meth0 {pl : Sem Bool} (G : ∀ c, cs.contains c = true → Mt X.prog X.w X.K X.mg X.base C.ct c m k n fr F) (tk : Takes X W) (hr : Room k X.A) (ho : SE X C W Γ o Γ1 fr1 f) (hn : n = 1 := by rfl) (hio : okG C.io C.io Γ1 = true := by rfl)
    (ht : eval (.Call (.Attribute o m apos) [] [] pos) X.env = (do
      let ov ← eval o X.env
      standAt apos.atName
      let (f, first) ← holding [ov] (getMethod ov m pl)
      callWith pos f first (backTo pos (starEach [] X.env)) (backToKw pos (keywordEach [] X.env))) := by rfl) : SE X C W Γ (.Call (.Attribute o m apos) [] [] pos) Γ1 fr (mMeth cs m F f mNil) := by
  refine ⟨peImp (pe_methD0 (pl := pl) ho.pe ht) fun σ H Q p => meth_core (hid := []) (ρ := []) p fun c od v H1 tm1 hid ρ1 hc qc hh S1 hs k1 va t1 p => ?_⟩
  obtain ⟨Cc, fa, fd, ps, e1, cl, mt, fn, bi⟩ := (G c hc).ex
  have ks : Kepts (gx X.K C) H1 (Ms σ (tm1 ++ hid) Γ1) tm1 [od] [v] := .cons (Kept.of va) .nil
  obtain ⟨a, Cc', dx, ns, vs, ds, rfl, rfl, h1, h2, h3, h4⟩ := shal_obj va.shal0 qc
  have e2 : Cc' = Cc := Option.some.inj (h2.symm.trans e1)
  subst e2
  have hno : (ns.zip vs).lookup m = none := lookup_zip_none (by simpa [hasNo] using hh)
  exact ⟨a, dx, Cc', fa, _, k, fd, ps, _, WE W σ, rfl, h1, hno, cl, mt, fn, hr, bi, passAt tk σ, sp_call0 (ds := [.obj c ns ds]) hn S1 hs k1 t1 ks hio p⟩
/-- o.f -/
theorem se_fld (G : ∀ c, cs.contains c = true → At X.K C.ct c m) (ho : SE X C W Γ o Γ1 fr1 f) (hb : attributeBase o m X.env (eval o X.env) = eval o X.env := by rfl) : SE X C W Γ (.Attribute o m pos) Γ1 false (mFld cs m f) := ⟨peImp (pe_fld ho.pe hb) fun σ H Q ⟨hid, ρ, S, p⟩ => by
  refine ⟨hid, ρ, S, ?_⟩
  unfold mFld at p
  cases q : f ρ with
  | bad => rw [q] at p; exact p
  | exn e ρ' => rw [q] at p; exact p
  | ok od ρ1 =>
    rw [q] at p
    dsimp only [R.bind] at p
    intro v H1 tm1 S1 k1 va t1
    cases qc : clsOf od with
    | none => rw [qc] at p; exact p.elim
    | some c =>
      rw [qc] at p
      dsimp only at p
      by_cases hh : cs.contains c = true
      · rw [if_pos hh] at p
        obtain ⟨Cc, e1, cl, na⟩ := (G c hh).ex
        obtain ⟨a, Cc', dx, ns, vs, ds, rfl, rfl, h1, h2, h3, h4⟩ := shal_obj va.shal0 qc
        have e2 : Cc' = Cc := Option.some.inj (h2.symm.trans e1)
        subst e2
        cases ql : fldD m (.obj c ns ds) with
        | none => rw [ql] at p; exact p.elim
        | some d =>
          rw [ql] at p
          obtain ⟨w, hw, rw'⟩ := lookup_zip_rv h4 ql
          have sub : ∀ b ∈ Ms σ hid Γ1, b ∈ Ms σ (tm1 ++ hid) Γ1 := Ms_subH fun a ha => List.mem_append_right _ ha
          refine ⟨a, Cc', dx, _, w, rfl, h1, cl, na, hw, ?_⟩
          exact p w H1 [] (S1.forget (fun a ha => List.mem_append_right _ ha) S.sub) ⟨k1.le.trans (.of_same (mask_sub sub)), k1.fx⟩ (.fz (rw'.mono (.of_same (mask_sub sub))) fun z => nomatch z) fun _ z => nomatch z
      · rw [if_neg hh] at p; exact p.elim⟩
/-- C(e, ..) -/
theorem se_make (G : Mkr X.prog X.w X.K X.mg X.base C.ct x k n F) (tk : Takes X W) (hr : Room (k + 1) X.A) (ha : SA X C W Γ (e :: es) Γ' g) (hn : n = (e :: e :: es).length := by rfl) (hg : Gl X x := by rfl) (hio : okG C.io C.io Γ' = true := by rfl) (hdb : (x == ("__debug__" : Str)) = false := by decide)
    (he : starEach (e :: es) X.env = (false, eval e X.env) :: starEach es X.env := by rfl) (hpl : (backTo pos (starEach es X.env)).any (·.1) = false := by rfl) : SE X C W Γ (.Call (.Name x p) (e :: es) [] pos) Γ' true (mMake x F g) := by
  obtain ⟨Cc, f, fd, ps, ec, hm, M, fn, bi⟩ := G.ex
  refine ⟨peImp (pe_makeE (E := WE W) M fn hr hg hm bi (passAt tk) ha.pa hdb he hpl) fun σ H Q ⟨hid, ρ, S, p⟩ => ⟨hid, ρ, S, ?_⟩⟩
  unfold mMake at p
  cases q : g ρ with
  | bad => rw [q] at p; exact p
  | exn e ρ' => rw [q] at p; exact p
  | ok ds ρ1 =>
    rw [q] at p
    dsimp only [R.bind] at p
    intro vs H1 tm S1 k1 t1 ks a dx na nd hne
    have sub : ∀ b ∈ Ms σ hid Γ', b ∈ Ms σ (tm ++ hid) Γ' := Ms_subH fun a ha => List.mem_append_right _ ha
    have S2 := S1.forget (fun a ha => List.mem_append_right _ ha) S.sub
    have k2 : Stp (Ms σ hid Γ) (Ms σ hid Γ') hid H H1 := ⟨k1.le.trans (.of_same (mask_sub sub)), k1.fx⟩
    have rv : RVs (gx X.K C) (mask H1 (Ms σ hid Γ')) ds vs := ks.rv sub t1
    have aM := S2.none_out na
    obtain ⟨Hx, eHx⟩ : ∃ Hx, Hx = upd (upd H1 dx (.own a)) a (.ins Cc dx []) := ⟨_, rfl⟩
    rw [← eHx]
    have sx : Same H1 Hx := by
      rw [eHx]
      intro b u hb
      rw [upd_ne (ne_of_none hb na), upd_ne (ne_of_none hb nd)]; exact hb
    have ea : Hx a = some (.ins Cc dx []) := by rw [eHx]; exact upd_same
    -- the masks
    have l1 : HLe (mask H1 (Ms σ hid Γ')) (mask Hx (Ms σ hid Γ' ++ [a])) := .of_same fun b u hb => by
      obtain ⟨b1, b2⟩ := mask_some hb
      rw [mask_out, sx _ _ b2]
      intro z
      rcases List.mem_append.mp z with z | z
      · exact b1 z
      · rw [List.mem_singleton.mp z, na] at b2; cases b2
    refine ⟨.obj x [] [] :: ds, Ms σ hid Γ', [a], ?_, ⟨?_, rfl, by simp, fun b hb => by rw [List.mem_singleton.mp hb]; exact aM, fun b hb => ?_, fun i d hi hd => ?_, fun i hi => ?_⟩, ?_⟩
    · rw [List.length_cons, ← ks.length, ha.len _ _ _ q, hn]; rfl
    · rw [List.length_cons, List.length_cons, ks.length]
    · refine (S2.hdM b hb).of ?_
      cases qq : H1 b with
      | none => exact absurd qq (S2.trkM b hb)
      | some u => exact sx b u qq
    · cases i with
      | zero => exact absurd List.mem_cons_self hi
      | succ i =>
        obtain ⟨v, h1, h2⟩ := rv.get (i := i) (d := d) (by simpa using hd)
        exact ⟨v, by simpa using h1, h2.mono l1⟩
    · rw [List.mem_singleton.mp hi]
      exact ⟨_, a, rfl, rfl, .obj (ns := []) (vs := []) ea ec rfl .nil⟩
    · have go : ∀ {outs : List D} {tm' : List Addr} {H' : Hp}, CEnd (gx X.K C) [0] (.ref a :: vs) Hx (Ms σ hid Γ') [a] outs tm' H' → tm' = [] →
          ∃ o, outs = [o] ∧ ST X.K C ([a] ++ hid) Γ' ρ1 σ H' ∧ Stp (Ms σ hid Γ') (Ms σ ([a] ++ hid) Γ') hid H1 H' ∧ Cont (gx X.K C) H' (mask H' (Ms σ ([a] ++ hid) Γ')) a o := by
        intro outs tm' H' c ht
        subst ht
        obtain ⟨o, rfl⟩ : ∃ o, outs = [o] := by
          have := c.olen
          match outs, this with
          | [o], _ => exact ⟨o, rfl⟩
        have gro : ∀ b, H1 b ≠ none → H' b ≠ none := fun b hb => c.gro b (by
          cases qq : H1 b with
          | none => exact absurd qq hb
          | some u => rw [sx b u qq]; simp)
        have fx : ∀ b ∈ Ms σ hid Γ', H' b = H1 b := fun b hb => (c.fx b hb).trans (by
          cases qq : H1 b with
          | none => exact absurd qq (S2.trkM b hb)
          | some u => exact sx b u qq)
        have le : HLe (mask H1 (Ms σ hid Γ')) (mask H' (Ms σ hid Γ')) := (l1.trans c.le).trans (.of_same (mask_sub fun b hb => List.mem_append_left _ hb))
        obtain ⟨b, eb, cb⟩ := c.own 0 0 o rfl rfl
        have eb' : a = b := by
          have := Option.some.inj eb
          injection this
        subst eb'
        obtain ⟨S3, k3⟩ := S2.goes (tm := [a]) le (fun b hb => fx b (mem_Ms.mpr (.inl hb))) gro (fun b hb => by rw [List.mem_singleton.mp hb]; exact na) (fun b hb => by rw [List.mem_singleton.mp hb]; exact cb.hd) rfl (fun _ _ => rfl) fun j hj => .inl ⟨rfl, fx _ (mem_Ms.mpr (.inr ⟨j, hj, rfl⟩))⟩
        refine ⟨o, rfl, S3, k3, cb.mono (fun _ z => z) (.of_same (mask_sub fun b hb => ?_))⟩
        unfold Ms at hb
        rw [List.append_assoc] at hb
        rcases List.mem_append.mp hb with hb | hb
        · exact List.mem_append_right _ (List.mem_append_right _ hb)
        · exact List.mem_append_right _ (List.mem_append_left _ hb)
      cases qq : F (.obj x [] [] :: ds) with
      | bad => rw [qq] at p; exact p
      | exn e outs =>
        rw [qq] at p
        intro cls od H' c xr
        obtain ⟨o, rfl, S3, k3, _⟩ := go c rfl
        obtain ⟨h1, h2, h3⟩ := okG_of hio
        have S4 : ST X.K C C.hid C.io ρ1 σ H' := (ST.forget S3 (hid' := C.hid) (fun b hb => List.mem_append_right _ (S.sub b hb)) fun _ z => z).weak h1 h2 h3
        refine p cls od H' ?_ S4
        obtain ⟨Cc, x1, x2, x3⟩ := xr
        refine ⟨Cc, x1, x2, ?_⟩
        cases qf : e.fld with
        | none => rw [qf] at x3; exact x3
        | some d =>
          rw [qf] at x3
          obtain ⟨dd, f, v, y1, y2, y3⟩ := x3
          exact ⟨dd, f, v, y1, y2, y3.mono (.of_same (mask_sub fun b hb => by
            rcases mem_Ms.mp hb with z | ⟨j, hj, z⟩
            · exact List.mem_append_left _ (mem_Ms.mpr (.inl (S.sub b z)))
            · exact List.mem_append_left _ (mem_Ms.mpr (.inr ⟨j, h1 j hj, z⟩))))⟩
      | ok d outs =>
        rw [qq] at p
        intro v H' tm' c va
        cases va with
        | fz r hv =>
          obtain ⟨o, rfl, S3, k3, cb⟩ := go c rfl
          cases d with
          | non =>
            cases r
            exact ⟨rfl, p (.ref a) H' [a] S3 (k2.trans k3 fun _ z => z) (.fr cb) fun b hb => by rw [List.mem_singleton.mp hb]; exact aM⟩
          | _ => exact (show False from p).elim
end
end Ip
namespace Ip
open PySem L2 PySem.Spec PyProof.Rows

/-! ## what is walked -/
/-- J gives the items one after the other, as long as what is read alone at (H, M) is kept -/
def ItOk (g : Gx) (J : It) (items : List D) (H : Hp) (M : List Addr) : Prop :=
  ∃ (Gd : Hp → Prop) (Y : Nat → Hp → V → Hp → Prop), Walk J items.length Gd Y ∧ (∀ H1 M1, HLe (mask H M) (mask H1 M1) → Gd H1) ∧
    ∀ i x H1 H1' d, items[i]? = some d → Gd H1 → Y i H1 x H1' → Same H1 H1' ∧ ∀ M1, (∀ a ∈ M1, Hd H1 a) → HLe (mask H M) (mask H1 M1) → RV g (mask H1' M1) d x
def PostI (K : PySem.W.Frag) (C : Ac) (W : WX) (Γ Γ' : List Nat) (hid : List Addr) (σ : L2.St) (H : Hp) (Q : It → Hp → Prop) : R (List D) → Prop
  | .ok ds ρ' => ∀ J H', ST K C hid Γ' ρ' σ H' → Stp (Ms σ hid Γ) (Ms σ hid Γ') hid H H' → ItOk (gx K C) J ds H' (Ms σ hid Γ') → Q J H'
  | .exn e ρ' => ∀ cls od H', ExR (gx K C) H' (mask H' (Ms σ C.hid C.io)) e cls od → ST K C C.hid C.io ρ' σ H' → W cls od σ H'
  | .bad => False
structure SI (X : Cx) (C : Ac) (W : WX) (Γ : List Nat) (tg iter : Expr) (Γ' : List Nat) (f : Env → R (List D)) : Prop where
  pi : PI X tg iter fun σ H Q => ∃ hid ρ, ST X.K C hid Γ ρ σ H ∧ PostI X.K C W Γ Γ' hid σ H Q (f ρ)
theorem piImp {X : Cx} {tg e : Expr} {t t' : TI} (h : PI X tg e t) (i : ∀ σ H Q, t' σ H Q → t σ H Q) : PI X tg e t' := ⟨fun pins s σ H Q I q => h.run pins s σ H Q I (i σ H Q q)⟩

/-- a value that is walked, by its kind -/
def IvR (X : Cx) (tg : Expr) (r : V → Hp → (It → Hp → Prop) → Prop) : Prop :=
  ∀ (pins : List (Addr × Obj)) (s : Shared) (σ : L2.St) (H : Hp) (x : V) (v : Value) (Q : It → Hp → Prop), Inv X pins σ H s → RelV x v → r x H Q → wpAny (model X.prog X.w) X.A (pyIter v) (PIE X pins σ tg Q) X.xe s
theorem pi_iv {X : Cx} {tg e : Expr} {t : TE} {r : V → Hp → (It → Hp → Prop) → Prop} (h : IvR X tg r) (he : PE X e t) : PI X tg e fun σ H Q => t σ H fun x H1 => r x H1 Q :=
  ⟨fun pins s σ H Q I q => thn (he.run pins s σ H _ I q) fun v s1 ⟨x, H1, I1, r1, q1⟩ => h pins s1 σ H1 x v Q I1 r1 q1⟩
theorem IvR.or {X : Cx} {tg : Expr} {r r' : V → Hp → (It → Hp → Prop) → Prop} (h : IvR X tg r) (h' : IvR X tg r') : IvR X tg fun x H Q => r x H Q ∨ r' x H Q := fun pins s σ H x v Q I rx q => q.elim (h pins s σ H x v Q I rx) (h' pins s σ H x v Q I rx)
theorem iv_list {X : Cx} {tg : Expr} : IvR X tg fun x H Q => ∃ a, x = .ref a ∧ (∃ xs, SqL X.K H a xs) ∧ Q (Itl X.K a) H := by
  intro pins s σ H x v Q I rx ⟨a, ex, ⟨xs, hq⟩, q⟩
  subst ex; cases rx
  obtain ⟨its, rv, pl, _⟩ := I.list hq
  exact wpAny_pyIter_list pl.isList (pi_one (tk := s.toks) I _ (turn_list a _) ⟨_, Heap.get?_push_size _ rfl, rfl, rfl⟩ q)
theorem iv_tup {X : Cx} {tg : Expr} : IvR X tg fun x H Q => ∃ a, x = .ref a ∧ (∃ xs, SqT X.K H a xs) ∧ Q (Itt X.K a) H := by
  intro pins s σ H x v Q I rx ⟨a, ex, ⟨xs, hq⟩, q⟩
  subst ex; cases rx
  obtain ⟨its, rv, pl, _⟩ := I.tuple hq
  exact wpAny_pyIter_tuple (show s.heap.IsTuple a its.toArray from pl) (pi_one (tk := s.toks) I _ (turn_tuple a _) ⟨_, Heap.get?_push_size _ rfl, rfl, rfl⟩ q)
theorem iv_str {X : Cx} {tg : Expr} : IvR X tg fun y H Q => ∃ x, y = .str x ∧ Q (Its x) H := by
  intro pins s σ H y v Q I ry ⟨x, ex, q⟩
  subst ex
  obtain ⟨t, rfl⟩ := ry
  cases ha : x.cps.all (· < 128)
  · exact wpAny_pyIter_wide ha (pi_one (tk := s.toks) I _ (turn_str _ x t "str_iterator" (.inr rfl)) ⟨_, Heap.get?_push_size _ rfl, rfl, rfl⟩ q)
  · exact wpAny_pyIter_ascii ha (pi_one (tk := s.toks) I _ (turn_str _ x t "str_ascii_iterator" (.inl rfl)) ⟨_, Heap.get?_push_size _ rfl, rfl, rfl⟩ q)
def chD (c : Nat) : D := .str ⟨#[c]⟩
/-- the items of a list, a tuple, a text -/
def asSeq : D → Option (List D)
  | .lst ds => some ds
  | .tup ds => some ds
  | .str x => some (x.cps.toList.map chD)
  | _ => none
def mSeqI (f : Env → R D) : Env → R (List D) := fun ρ => (f ρ).bind fun d ρ' => ofO ρ' (asSeq d)
theorem itok_list {g : Gx} {H : Hp} {M : List Addr} {a : Addr} {vs : List V} {ds : List D} (h : SqL g.K (mask H M) a vs) (r : RVs g (mask H M) ds vs) : ItOk g (Itl g.K a) ds H M := by
  refine ⟨fun H1 => SqL g.K H1 a vs, YAt vs, by rw [r.length]; exact walk_list, fun H1 M1 le => (HLe.of_same mask_same).sqL (le.sqL h), fun i x H1 H1' d hd _ y => ?_⟩
  obtain ⟨rfl, hx⟩ := y
  refine ⟨Same.refl _, fun M1 _ le => ?_⟩
  obtain ⟨v, e, rv⟩ := r.get hd
  rw [hx] at e; cases e
  exact rv.mono le
theorem itok_tup {g : Gx} {H : Hp} {M : List Addr} {a : Addr} {vs : List V} {ds : List D} (h : mask H M a = some (.tup vs)) (r : RVs g (mask H M) ds vs) : ItOk g (Itt g.K a) ds H M := by
  refine ⟨fun H1 => SqT g.K H1 a vs, YAt vs, by rw [r.length]; exact walk_tup, fun H1 M1 le => SqT.of (mask_some (le.o _ _ h trivial)).2, fun i x H1 H1' d hd _ y => ?_⟩
  obtain ⟨rfl, hx⟩ := y
  refine ⟨Same.refl _, fun M1 _ le => ?_⟩
  obtain ⟨v, e, rv⟩ := r.get hd
  rw [hx] at e; cases e
  exact rv.mono le
theorem itok_str {g : Gx} {H : Hp} {M : List Addr} {x : Str} : ItOk g (Its x) (x.cps.toList.map chD) H M := by
  refine ⟨fun _ => True, _, by rw [List.length_map, Array.length_toList]; exact walk_str, fun _ _ _ => trivial, fun i v H1 H1' d hd _ y => ?_⟩
  obtain ⟨rfl, c, hc, rfl⟩ := y
  refine ⟨Same.refl _, fun M1 _ _ => ?_⟩
  rw [List.getElem?_map, Array.getElem?_toList, hc] at hd
  cases hd
  exact .str _
theorem itok_range {g : Gx} {H : Hp} {M : List Addr} {lo : Int} {n : Nat} : ItOk g (Itr lo n) ((List.range n).map fun i => D.int (lo + (i : Nat))) H M := by
  refine ⟨fun _ => True, _, by rw [List.length_map, List.length_range]; exact walk_range, fun _ _ _ => trivial, fun i v H1 H1' d hd _ y => ?_⟩
  obtain ⟨rfl, rfl⟩ := y
  refine ⟨Same.refl _, fun M1 _ _ => ?_⟩
  rw [List.getElem?_map] at hd
  by_cases hi : i < n
  · rw [List.getElem?_range hi] at hd
    cases hd
    exact .int _
  · rw [List.getElem?_eq_none (by simpa using hi)] at hd
    cases hd

section
variable {X : Cx} {C : Ac} {W : WX} {Γ Γ1 Γ2 Γ' Γb : List Nat} {fr fr1 : Bool} {e e2 tg iter : Expr} {es : List Expr} {f : Env → R D} {g : Env → R (List D)} {p pos : Pos}
theorem si_seq (ha : SE X C W Γ e Γ' fr f) : SI X C W Γ tg e Γ' (mSeqI f) := ⟨piImp (pi_iv (iv_list.or (iv_tup.or iv_str)) ha.pe) fun σ H Q ⟨hid, ρ, S, p⟩ => by
  refine ⟨hid, ρ, S, ?_⟩
  unfold mSeqI at p
  cases q : f ρ with
  | bad => rw [q] at p; exact p
  | exn e ρ' => rw [q] at p; exact p
  | ok d ρ' =>
    rw [q] at p
    dsimp only [R.bind] at p
    intro v H1 tm S1 k1 va t1
    have sub : ∀ b ∈ Ms σ hid Γ', b ∈ Ms σ (tm ++ hid) Γ' := Ms_subH fun a ha => List.mem_append_right _ ha
    have S2 := S1.forget (fun a ha => List.mem_append_right _ ha) S.sub
    have k2 : Stp (Ms σ hid Γ) (Ms σ hid Γ') hid H H1 := ⟨k1.le.trans (.of_same (mask_sub sub)), k1.fx⟩
    have rv : RV (gx X.K C) (mask H1 (Ms σ hid Γ')) d v := va.rv sub t1
    cases rv with
    | lst h r => exact .inl ⟨_, rfl, ⟨_, (HLe.of_same mask_same).sqL h⟩, p _ H1 S2 k2 (itok_list h r)⟩
    | tup h r => exact .inr (.inl ⟨_, rfl, ⟨_, SqT.of (mask_some h).2⟩, p _ H1 S2 k2 (itok_tup h r)⟩)
    | str x => exact .inr (.inr ⟨_, rfl, p _ H1 S2 k2 itok_str⟩)
    | _ => exact (show False from p).elim⟩
def asR1 : List D → Option (List D)
  | [.int n] => if -(2 ^ 62) ≤ n ∧ n < 2 ^ 62 then some ((List.range n.toNat).map fun i => .int (i : Nat)) else none
  | _ => none
def asR2 : List D → Option (List D)
  | [.int a, .int b] => if -(2 ^ 62) ≤ a ∧ a < 2 ^ 62 ∧ -(2 ^ 62) ≤ b ∧ b < 2 ^ 62 then some ((List.range (b - a).toNat).map fun i => .int (a + (i : Nat))) else none
  | _ => none
def mArgI (o : List D → Option (List D)) (g : Env → R (List D)) : Env → R (List D) := fun ρ => (g ρ).bind fun ds ρ' => ofO ρ' (o ds)
theorem kept_int {gg : Gx} {H : Hp} {M tm : List Addr} {i : Int} {v : V} (h : Kept gg H M tm (.int i) v) : v = .int i := by
  rcases h with r | ⟨a, _, _, c⟩
  · cases r; rfl
  · cases c
theorem asR1_inv {ds its : List D} (h : asR1 ds = some its) : ∃ n : Int, ds = [.int n] ∧ -(2 ^ 62) ≤ n ∧ n < 2 ^ 62 ∧ its = (List.range n.toNat).map fun i => .int (i : Nat) := by
  unfold asR1 at h
  split at h
  · split at h
    · cases h; exact ⟨_, rfl, by omega, by omega, rfl⟩
    · cases h
  · cases h
theorem asR2_inv {ds its : List D} (h : asR2 ds = some its) : ∃ a b : Int, ds = [.int a, .int b] ∧ -(2 ^ 62) ≤ a ∧ a < 2 ^ 62 ∧ -(2 ^ 62) ≤ b ∧ b < 2 ^ 62 ∧ its = (List.range (b - a).toNat).map fun i => .int (a + (i : Nat)) := by
  unfold asR2 at h
  split at h
  · split at h
    · cases h; exact ⟨_, _, rfl, by omega, by omega, by omega, by omega, rfl⟩
    · cases h
  · cases h
theorem PostI.ofO {K : PySem.W.Frag} {C : Ac} {W : WX} {Γ Γ' : List Nat} {hid : List Addr} {σ : L2.St} {H : Hp} {Q : It → Hp → Prop} {ρ' : Env} {o : Option (List D)} (p : PostI K C W Γ Γ' hid σ H Q (ofO ρ' o)) : ∃ its, o = some its ∧ ∀ J H', ST K C hid Γ' ρ' σ H' → Stp (Ms σ hid Γ) (Ms σ hid Γ') hid H H' → ItOk (gx K C) J its H' (Ms σ hid Γ') → Q J H' := by
  cases o with
  | none => exact (show False from p).elim
  | some its => exact ⟨its, rfl, p⟩
theorem si_range1 (ha : SA X C W Γ [e] Γ' g) (hm : X.mg "range" = none) (hg : Gl X "range" := by rfl) (hs : starEach [e] X.env = [(false, eval e X.env)] := by rfl) : SI X C W Γ tg (.Call (.Name "range" p) [e] [] pos) Γ' (mArgI asR1 g) :=
  ⟨piImp (pi_range1 hg hm ha.pa hs) fun σ H Q ⟨hid, ρ, S, p⟩ => by
  refine ⟨hid, ρ, S, ?_⟩
  unfold mArgI at p
  cases q : g ρ with
  | bad => rw [q] at p; exact p
  | exn e ρ' => rw [q] at p; exact p
  | ok ds ρ' =>
    rw [q] at p
    dsimp only [R.bind] at p
    intro vs H1 tm S1 k1 t1 ks
    have sub : ∀ b ∈ Ms σ hid Γ', b ∈ Ms σ (tm ++ hid) Γ' := Ms_subH fun a ha => List.mem_append_right _ ha
    have S2 := S1.forget (fun a ha => List.mem_append_right _ ha) S.sub
    have k2 : Stp (Ms σ hid Γ) (Ms σ hid Γ') hid H H1 := ⟨k1.le.trans (.of_same (mask_sub sub)), k1.fx⟩
    obtain ⟨its, ho, p⟩ := PostI.ofO p
    obtain ⟨n, rfl, h1, h2, rfl⟩ := asR1_inv ho
    cases ks with
    | cons k ks =>
    cases ks
    have := kept_int k
    subst this
    refine ⟨n, rfl, h1, h2, p _ H1 S2 k2 ?_⟩
    have z := itok_range (g := gx X.K C) (H := H1) (M := Ms σ hid Γ') (lo := 0) (n := n.toNat)
    simpa only [Int.zero_add] using z⟩
theorem si_range2 (ha : SA X C W Γ [e, e2] Γ' g) (hm : X.mg "range" = none) (hg : Gl X "range" := by rfl) (hs : starEach [e, e2] X.env = [(false, eval e X.env), (false, eval e2 X.env)] := by rfl) (hs2 : starEach [e2] X.env = [(false, eval e2 X.env)] := by rfl) : SI X C W Γ tg (.Call (.Name "range" p) [e, e2] [] pos) Γ' (mArgI asR2 g) :=
  ⟨piImp (pi_range2 hg hm ha.pa hs hs2) fun σ H Q ⟨hid, ρ, S, p⟩ => by
  refine ⟨hid, ρ, S, ?_⟩
  unfold mArgI at p
  cases q : g ρ with
  | bad => rw [q] at p; exact p
  | exn e ρ' => rw [q] at p; exact p
  | ok ds ρ' =>
    rw [q] at p
    dsimp only [R.bind] at p
    intro vs H1 tm S1 k1 t1 ks
    have sub : ∀ b ∈ Ms σ hid Γ', b ∈ Ms σ (tm ++ hid) Γ' := Ms_subH fun a ha => List.mem_append_right _ ha
    have S2 := S1.forget (fun a ha => List.mem_append_right _ ha) S.sub
    have k2 : Stp (Ms σ hid Γ) (Ms σ hid Γ') hid H H1 := ⟨k1.le.trans (.of_same (mask_sub sub)), k1.fx⟩
    obtain ⟨its, ho, p⟩ := PostI.ofO p
    obtain ⟨a, b, rfl, h1, h2, h3, h4, rfl⟩ := asR2_inv ho
    cases ks with
    | cons k ks =>
    cases ks with
    | cons k' ks =>
    cases ks
    have := kept_int k
    subst this
    have := kept_int k'
    subst this
    exact ⟨a, b, rfl, ⟨h1, h2, h3, h4⟩, p _ H1 S2 k2 itok_range⟩⟩
end
end Ip
namespace Ip
open PySem L2 PySem.Spec PyProof.Rows

section
variable {X : Cx} {C : Ac} {W : WX} {Γ Γ1 Γ2 Γ3 Γ' Γb : List Nat} {fr fr1 fr2 fr3 : Bool} {e a b c : Expr} {es : List Expr} {f h k : Env → R D} {g : Env → R (List D)} {p pos apos : Pos}
/-! ## how an expression ends -/
theorem fin_fz {hid tm : List Addr} {ρ' : Env} {σ : L2.St} {H H1 : Hp} {Q : VK} {d : D} (p : PostE X.K C W Γ Γ' false hid σ H Q (.ok d ρ')) (hs : ∀ a ∈ C.hid, a ∈ hid) (S1 : ST X.K C (tm ++ hid) Γ' ρ' σ H1) (k1 : Stp (Ms σ hid Γ) (Ms σ (tm ++ hid) Γ') hid H H1) :
    ∀ v H', Same H1 H' → RV (gx X.K C) (mask H' (Ms σ (tm ++ hid) Γ')) d v → Q v H' := fun v H' s rv =>
  p v H' [] (S1.fin hs s) (k1.fin s fun a ha => (S1.trk a (List.mem_append_right _ ha)).1) (.fz (rv.mono (.of_same (mask_sub (Ms_subH fun a ha => List.mem_append_right _ ha)))) fun z => nomatch z) fun _ z => nomatch z
theorem fin_fr {hid tm : List Addr} {ρ' : Env} {σ : L2.St} {H H1 : Hp} {Q : VK} {d : D} (p : PostE X.K C W Γ Γ' true hid σ H Q (.ok d ρ')) (hs : ∀ a ∈ C.hid, a ∈ hid) (S1 : ST X.K C (tm ++ hid) Γ' ρ' σ H1) (k1 : Stp (Ms σ hid Γ) (Ms σ (tm ++ hid) Γ') hid H H1) :
    ∀ q u, H1 q = none → Cont (gx X.K C) (upd H1 q u) (mask H1 (Ms σ (tm ++ hid) Γ')) q d → Q (.ref q) (upd H1 q u) := fun q u hq c => by
  have sub : ∀ b ∈ Ms σ hid Γ', b ∈ Ms σ (tm ++ hid) Γ' := Ms_subH fun a ha => List.mem_append_right _ ha
  have S2 := S1.forget (fun a ha => List.mem_append_right _ ha) hs
  have k2 : Stp (Ms σ hid Γ) (Ms σ hid Γ') hid H H1 := ⟨k1.le.trans (.of_same (mask_sub sub)), k1.fx⟩
  have kh := S2.holdStp (o := u) hq
  refine p (.ref q) _ [q] (S2.hold hq fun vs z => c.hd.2 vs (by rw [upd_same, z])) (k2.trans kh fun _ z => z) (.fr (c.mono (fun _ z => z) ((HLe.of_same (mask_sub sub)).trans kh.le))) fun b hb => ?_
  rw [List.mem_singleton.mp hb]; exact S2.none_out hq

/-! ## arguments that are seen alone -/
def PostV (K : PySem.W.Frag) (C : Ac) (W : WX) (Γ Γ' : List Nat) (hid : List Addr) (σ : L2.St) (H : Hp) (Q : List V → Hp → Prop) : R (List D) → Prop
  | .ok ds ρ' => ∀ vs H' tm, ST K C (tm ++ hid) Γ' ρ' σ H' → Stp (Ms σ hid Γ) (Ms σ (tm ++ hid) Γ') hid H H' → (∀ a ∈ tm, a ∉ Ms σ hid Γ') → Shals (gx K C) H' (mask H' (Ms σ (tm ++ hid) Γ')) ds vs → Q vs H'
  | .exn e ρ' => ∀ cls od H', ExR (gx K C) H' (mask H' (Ms σ C.hid C.io)) e cls od → ST K C C.hid C.io ρ' σ H' → W cls od σ H'
  | .bad => False
def tVs (K : PySem.W.Frag) (C : Ac) (W : WX) (Γ Γ' : List Nat) (f : Env → R (List D)) : TA := fun σ H Q => ∃ hid ρ, ST K C hid Γ ρ σ H ∧ PostV K C W Γ Γ' hid σ H Q (f ρ)
structure SV (X : Cx) (C : Ac) (W : WX) (Γ : List Nat) (es : List Expr) (Γ' : List Nat) (f : Env → R (List D)) : Prop where
  pa : PA X es (tVs X.K C W Γ Γ' f)
theorem sv_nil : SV X C W Γ [] Γ mNil := ⟨paImp pa_nil fun σ H Q ⟨hid, ρ, S, p⟩ => p [] H [] S (Stp.refl _ _ _) (fun _ z => nomatch z) .nil⟩
theorem sv_cons (ha : SE X C W Γ a Γ1 fr1 f) (hr : SV X C W Γ1 es Γ2 g) (hs : starEach (a :: es) X.env = (false, eval a X.env) :: starEach es X.env := by rfl) : SV X C W Γ (a :: es) Γ2 (mCons f g) := by
  refine ⟨paImp (pa_cons ha.pe hr.pa hs) fun σ H Q ⟨hid, ρ, S, p⟩ => ⟨hid, ρ, S, ?_⟩⟩
  unfold mCons at p
  cases q : f ρ with
  | bad => rw [q] at p; exact p
  | exn e ρ' => rw [q] at p; exact p
  | ok d ρ1 =>
    rw [q] at p
    dsimp only [R.bind] at p
    intro v H1 tm1 S1 k1 va t1
    refine ⟨tm1 ++ hid, ρ1, S1, ?_⟩
    cases q2 : g ρ1 with
    | bad => rw [q2] at p; exact p
    | exn e ρ' => rw [q2] at p; exact p
    | ok ds ρ2 =>
      rw [q2] at p
      dsimp only at p
      intro vs H2 tm2 S2 k2 t2 ks
      have e : tm2 ++ (tm1 ++ hid) = (tm2 ++ tm1) ++ hid := (List.append_assoc ..).symm
      rw [e] at S2 k2 ks
      refine p (v :: vs) H2 (tm2 ++ tm1) S2 (k1.trans k2 fun a ha => List.mem_append_right _ ha) (fun a ha z => ?_) (.cons ((Kept.of va).stp (tm' := tm2 ++ tm1) k2 fun a ha => List.mem_append_right _ ha).shal ks)
      rcases List.mem_append.mp ha with ha | ha
      · exact t2 a ha (Ms_subH (fun b hb => List.mem_append_right _ hb) a z)
      · rcases mem_Ms.mp z with z | ⟨i, hi, rfl⟩
        · exact t1 a ha (mem_Ms.mpr (.inl z))
        · exact S2.dis i hi (List.mem_append_left _ (List.mem_append_right _ ha))
def mOwn (i : Nat) (g : Env → R (List D)) : Env → R (List D) := fun ρ => (g ρ).bind fun ds ρ2 => match ρ2.getD i none with
  | some d => .ok (d :: ds) ρ2
  | none => .bad
theorem own_at {K : PySem.W.Frag} {hid : List Addr} {ρ : Env} {σ : L2.St} {H : Hp} (S : ST K C hid Γ ρ σ H) {i : Nat} (hi : Γ.contains i = true) : ∃ d, ρ.getD i none = some d ∧ σ[i]? = some (some (.ref (sa σ i))) ∧ Cont (gx K C) H (mask H (Ms σ hid Γ)) (sa σ i) d := by
  obtain ⟨d, e1, e2, c⟩ := S.ow i (List.contains_iff_mem.mp hi)
  exact ⟨d, by rw [List.getD_eq_getElem?_getD, e1]; rfl, e2, c⟩
/-- an owned name as an argument, not let go -/
theorem sv_own (i : Nat) {x : Str} (hr : SV X C W Γ es Γ2 g) (hN : X.N[i]? = some x := by rfl) (hv : Vis X.env.scope x := by first | exact Or.inl rfl | exact Or.inr (Or.inl rfl) | exact Or.inr (Or.inr rfl)) (hi : Γ.contains i = true := by rfl) (hi2 : Γ2.contains i = true := by rfl)
    (hs : starEach (.Name x p :: es) X.env = (false, eval (.Name x p) X.env) :: starEach es X.env := by rfl) (hd : (x == ("__debug__" : Str)) = false := by decide) (hcd : (x == ("__classdict__" : Str)) = false := by decide) : SV X C W Γ (.Name x p :: es) Γ2 (mOwn i g) := by
  refine ⟨paImp (pa_cons (pe_var hN hv hd hcd) hr.pa hs) fun σ H Q ⟨hid, ρ, S, p⟩ => ?_⟩
  obtain ⟨d0, _, e2, _⟩ := own_at S hi
  refine ⟨_, e2, hid, ρ, S, ?_⟩
  unfold mOwn at p
  cases q : g ρ with
  | bad => rw [q] at p; exact p
  | exn e ρ' => rw [q] at p; exact p
  | ok ds ρ2 =>
    rw [q] at p
    dsimp only [R.bind] at p
    intro vs H2 tm2 S2 k2 t2 ks
    obtain ⟨d, e1, _, c⟩ := own_at S2 hi2
    rw [e1] at p
    exact p _ H2 tm2 S2 k2 t2 (.cons c.shal ks)

/-! ## calls of builtins -/
def CalS (g : Gx) (r : List V → Hp → VK → Prop) (o : List D → Option D) : Prop := ∀ (H : Hp) (M : List Addr) (vs : List V) (ds : List D) (d : D) (Q : VK), (∀ a ∈ M, H a ≠ none) → Shals g H (mask H M) ds vs → o ds = some d →
  (∀ v H', Same H H' → RV g (mask H' M) d v → Q v H') → r vs H Q
def CalO (g : Gx) (r : List V → Hp → VK → Prop) (o : List D → Option D) : Prop := ∀ (H : Hp) (M : List Addr) (vs : List V) (ds : List D) (d : D) (Q : VK), (∀ a ∈ M, H a ≠ none) → Shals g H (mask H M) ds vs → o ds = some d →
  (∀ q u, H q = none → Cont g (upd H q u) (mask H M) q d → Q (.ref q) (upd H q u)) → r vs H Q
def mArg (o : List D → Option D) (g : Env → R (List D)) : Env → R D := fun ρ => (g ρ).bind fun ds ρ' => ofO ρ' (o ds)
theorem arg_tE {r : List V → Hp → VK → Prop} {o : List D → Option D} (hs : CalS ⟨X.K, C.ct⟩ r o) {σ : L2.St} {H : Hp} {Q : VK} (p : tE X.K C W Γ Γ' false (mArg o g) σ H Q) : tVs X.K C W Γ Γ' g σ H fun vs H1 => r vs H1 Q := by
  obtain ⟨hid, ρ, S, p⟩ := p
  refine ⟨hid, ρ, S, ?_⟩
  unfold mArg at p
  cases q : g ρ with
  | bad => rw [q] at p; exact p
  | exn e ρ' => rw [q] at p; exact p
  | ok ds ρ2 =>
    rw [q] at p
    dsimp only [R.bind] at p
    intro vs H1 tm S1 k1 t1 ks
    cases q2 : o ds with
    | none => rw [q2] at p; exact p.elim
    | some d => rw [q2] at p; exact hs H1 _ vs ds d Q S1.trkM ks q2 (fin_fz p S.sub S1 k1)
theorem arg_tO {r : List V → Hp → VK → Prop} {o : List D → Option D} (hs : CalO ⟨X.K, C.ct⟩ r o) {σ : L2.St} {H : Hp} {Q : VK} (p : tE X.K C W Γ Γ' true (mArg o g) σ H Q) : tVs X.K C W Γ Γ' g σ H fun vs H1 => r vs H1 Q := by
  obtain ⟨hid, ρ, S, p⟩ := p
  refine ⟨hid, ρ, S, ?_⟩
  unfold mArg at p
  cases q : g ρ with
  | bad => rw [q] at p; exact p
  | exn e ρ' => rw [q] at p; exact p
  | ok ds ρ2 =>
    rw [q] at p
    dsimp only [R.bind] at p
    intro vs H1 tm S1 k1 t1 ks
    cases q2 : o ds with
    | none => rw [q2] at p; exact p.elim
    | some d => rw [q2] at p; exact hs H1 _ vs ds d Q S1.trkM ks q2 (fin_fr p S.sub S1 k1)
variable {id T : String} {x : Str} {r : List V → Hp → VK → Prop} {o : List D → Option D}
theorem se_calB (hc : CallR X (.builtin id) r) (hs : CalS ⟨X.K, C.ct⟩ r o) (hm : X.mg x = none) (ha : SV X C W Γ (e :: es) Γ' g) (hg : Gl X x := by rfl) (hv : bootBuiltins x = some (.builtin id) := by decide +kernel) (hn : x ≠ "__name__" := by decide) (hdb : (x == ("__debug__" : Str)) = false := by decide)
    (he : starEach (e :: es) X.env = (false, eval e X.env) :: starEach es X.env := by rfl) (hpl : (backTo pos (starEach es X.env)).any (·.1) = false := by rfl) : SE X C W Γ (.Call (.Name x p) (e :: es) [] pos) Γ' false (mArg o g) :=
  ⟨peImp (pe_callB hc hg hm hv ha.pa hn hdb he hpl) fun _ _ _ p => arg_tE hs p⟩
theorem se_calT (hc : CallR X (.type T) r) (hs : CalS ⟨X.K, C.ct⟩ r o) (hm : X.mg x = none) (ha : SV X C W Γ (e :: es) Γ' g) (hg : Gl X x := by rfl) (hv : bootBuiltins x = some (.type T) := by decide +kernel) (hn : x ≠ "__name__" := by decide) (hdb : (x == ("__debug__" : Str)) = false := by decide)
    (he : starEach (e :: es) X.env = (false, eval e X.env) :: starEach es X.env := by rfl) (hpl : (backTo pos (starEach es X.env)).any (·.1) = false := by rfl) : SE X C W Γ (.Call (.Name x p) (e :: es) [] pos) Γ' false (mArg o g) :=
  ⟨peImp (pe_callTy hc hg hm hv ha.pa hn hdb he hpl) fun _ _ _ p => arg_tE hs p⟩
theorem se_calO (hc : CallR X (.type T) r) (hs : CalO ⟨X.K, C.ct⟩ r o) (hm : X.mg x = none) (ha : SV X C W Γ (e :: es) Γ' g) (hg : Gl X x := by rfl) (hv : bootBuiltins x = some (.type T) := by decide +kernel) (hn : x ≠ "__name__" := by decide) (hdb : (x == ("__debug__" : Str)) = false := by decide)
    (he : starEach (e :: es) X.env = (false, eval e X.env) :: starEach es X.env := by rfl) (hpl : (backTo pos (starEach es X.env)).any (·.1) = false := by rfl) : SE X C W Γ (.Call (.Name x p) (e :: es) [] pos) Γ' true (mArg o g) :=
  ⟨peImp (pe_callTy hc hg hm hv ha.pa hn hdb he hpl) fun _ _ _ p => arg_tO hs p⟩

/-! ### the builtins -/
def oLen : List D → Option D
  | [.str y] => if y.length ≤ sizeLine then some (.int y.length) else none
  | [.lst ds] => some (.int ds.length)
  | [.tup ds] => some (.int ds.length)
  | _ => none
theorem cal_len {gg : Gx} : CalS gg (fun xs H Q => ∃ x n, xs = [x] ∧ LenV gg.K x H n ∧ Q (.int n) H) oLen := fun H M vs ds d Q tr ks ho q => by
  cases ks with
  | nil => cases ho
  | cons s t =>
    cases t with
    | cons _ _ => cases s <;> cases ho
    | nil =>
      cases s with
      | str y =>
        simp only [oLen, Option.ite_none_right_eq_some, Option.some.injEq] at ho
        obtain ⟨hz, rfl⟩ := ho
        exact ⟨_, _, rfl, ⟨hz, rfl⟩, q _ H (.refl _) (.int _)⟩
      | lst e r => cases ho; rw [r.length] at q; exact ⟨_, _, rfl, .inl ⟨_, e, rfl⟩, q _ H (.refl _) (.int _)⟩
      | tup e r => cases ho; rw [r.length] at q; exact ⟨_, _, rfl, .inr ⟨_, SqT.of e, rfl⟩, q _ H (.refl _) (.int _)⟩
      | _ => cases ho
end
end Ip
namespace Ip
open PySem L2 PySem.Spec PyProof.Rows

/-! ## isinstance(e, T), T a type of the language -/
def tyD : D → Option String
  | .non => some "NoneType"
  | .bl _ => some "bool"
  | .int _ => some "int"
  | .str _ => some "str"
  | .tup _ => some "tuple"
  | .lst _ => some "list"
  | .dic _ _ => some "dict"
  | .dit _ _ => some "dict"
  | _ => none
def subT (a b : String) : Bool := a == b || (a == "bool" && b == "int")
def tys : List String := ["NoneType", "bool", "int", "str", "tuple", "list", "dict"]
def KbOk (T : String) : Prop := ∀ t ∈ tys, kitB t T = some (subT t T)
theorem kb_of {T : String} (h : (tys.all fun t => decide (kitB t T = some (subT t T))) = true) : KbOk T := fun t ht => of_decide_eq_true (List.all_eq_true.mp h t ht)
theorem kb_int : KbOk "int" := kb_of (by decide +kernel)
theorem kb_bool : KbOk "bool" := kb_of (by decide +kernel)
theorem kb_str : KbOk "str" := kb_of (by decide +kernel)
theorem kb_list : KbOk "list" := kb_of (by decide +kernel)
theorem kb_tuple : KbOk "tuple" := kb_of (by decide +kernel)
theorem kb_dict : KbOk "dict" := kb_of (by decide +kernel)
theorem kit_shal {X : Cx} {pins : List (Addr × Obj)} {σ : L2.St} {H Hm : Hp} {s : Shared} {g : Gx} {d : D} {x : V} {u : Value} {t : String} (I : Inv X pins σ H s) (hg : g.K = X.K) (sh : Shal g H Hm d x) (rx : RelV x u) (ht : tyD d = some t) :
    ∃ P : Heap → Prop, PySem.W.KitX X.K u (.type t) P ∧ P s.heap ∧ u ≠ .builtin "__main__.__loader__#opaque" := by
  have ext : ∀ {y : Value}, TyX X.K H x y → y = .type t → ∃ P : Heap → Prop, PySem.W.KitX X.K u (.type t) P ∧ P s.heap ∧ u ≠ .builtin "__main__.__loader__#opaque" := fun ty e => by
    rw [← e]; exact kit_of I rx ty
  cases sh with
  | non => cases ht; exact ext (.base .non) rfl
  | bl b => cases ht; exact ext (.base (.bl b)) rfl
  | int i => cases ht; exact ext (.base (.int i)) rfl
  | str y => cases ht; exact ext (.base (.str y)) rfl
  | tup h _ => cases ht; exact ext (.base (.tup h)) rfl
  | lst h _ =>
    cases ht
    rw [hg] at h
    rcases h with (h | ⟨o, h⟩) | ⟨o, _, _, h, c, _⟩
    · exact ext (.base (.lst h)) rfl
    · exact ext (.base (.frz h)) rfl
    · exact ext (.kList h c) rfl
  | dK h _ _ =>
    cases ht
    rcases h with h | ⟨o, h⟩
    · exact ext (.base (.dK h)) rfl
    · exact ext (.fDict h) rfl
  | @dT a ks vs ds h _ _ =>
    cases ht
    rcases h with h | ⟨ob, h⟩
    · exact ext (.base (.dT h)) rfl
    · cases (show u = Value.ref a from rx)
      obtain ⟨_, _, _, xs, _, o, es, ep, h1, h2, _⟩ := (show ObjOk X.prog X.w H s.heap a (.frz ob (.dT (ks.zip vs))) from I.hok a _ h)
      exact ⟨_, PySem.W.kitx_dict, ⟨o, h1, h2.1⟩, fun z => nomatch z⟩
  | obj _ _ _ _ => cases ht
def rIsS (g : Gx) (T : String) : List V → Hp → VK → Prop := fun xs H Q => ∃ (x : V) (d : D) (Hm : Hp) (t : String), xs = [x, .ty T] ∧ Shal g H Hm d x ∧ tyD d = some t ∧ Q (.bl (subT t T)) H
theorem call_isS {X : Cx} {g : Gx} (hg : g.K = X.K) {T : String} (hT : KbOk T) : CallR X (.builtin "isinstance") (rIsS g T) := by
  intro pins s σ H xs us Q I r h
  obtain ⟨x, d, Hm, t, rfl, sh, ht, q⟩ := h
  obtain ⟨u1, u2, rfl, r1, r2⟩ := vals2 r
  cases (show u2 = Value.type T from r2)
  obtain ⟨P, Z, p, hx⟩ := kit_shal I hg sh r1 ht
  have hm : t ∈ tys := by
    cases d <;> first | (cases ht; decide) | cases ht
  exact PySem.W.kia_one Z I.kIn p (kit_ty (hT t hm)) hx fun tk => ⟨.bl _, H, I.tok tk, rfl, q⟩
def isiD (T : String) (d : D) : Option D := (tyD d).map fun t => .bl (subT t T)
section
variable {X : Cx} {C : Ac} {W : WX} {Γ Γ1 Γ2 Γ3 Γ' Γb : List Nat} {fr fr1 fr2 fr3 : Bool} {e a b c : Expr} {es : List Expr} {f h k : Env → R D} {g : Env → R (List D)} {p pos apos p2 : Pos}
theorem un_tE {op : D → Option D} {r : V → Hp → VK → Prop} (ho : ∀ (H : Hp) (M : List Addr) (x : V) (dx d : D) (Q : VK), (∀ a ∈ M, H a ≠ none) → Shal ⟨X.K, C.ct⟩ H (mask H M) dx x → op dx = some d → (∀ v H', Same H H' → RV ⟨X.K, C.ct⟩ (mask H' M) d v → Q v H') → r x H Q)
    {σ : L2.St} {H : Hp} {Q : VK} (p : tE X.K C W Γ Γ' false (mUn op f) σ H Q) : tE X.K C W Γ Γ' fr f σ H fun x H1 => r x H1 Q := by
  obtain ⟨hid, ρ, S, p⟩ := p
  refine ⟨hid, ρ, S, ?_⟩
  unfold mUn at p
  cases q : f ρ with
  | bad => rw [q] at p; exact p
  | exn e ρ' => rw [q] at p; exact p
  | ok d ρ1 =>
    rw [q] at p
    dsimp only [R.bind] at p
    intro v H1 tm S1 k1 va t1
    cases q2 : op d with
    | none => rw [q2] at p; exact p.elim
    | some z => rw [q2] at p; exact ho H1 _ v d z Q S1.trkM va.shal0 q2 (fin_fz p S.sub S1 k1)
theorem se_isi {T : String} {x : Str} (he : SE X C W Γ e Γ' fr f) (hT : KbOk T) (hi : X.mg "isinstance" = none) (hm : X.mg x = none) (hgi : Gl X "isinstance" := by rfl) (hg : Gl X x := by rfl) (hvi : bootBuiltins "isinstance" = some (.builtin "isinstance") := by decide +kernel)
    (hv : bootBuiltins x = some (.type T) := by decide +kernel) (hn : x ≠ "__name__" := by decide) (hdb : (x == ("__debug__" : Str)) = false := by decide)
    (hs : starEach [e, .Name x p2] X.env = (false, eval e X.env) :: starEach [.Name x p2] X.env := by rfl) (hs2 : starEach [.Name x p2] X.env = (false, eval (.Name x p2) X.env) :: starEach [] X.env := by rfl)
    (hpl : (backTo pos (starEach [.Name x p2] X.env)).any (·.1) = false := by rfl) : SE X C W Γ (.Call (.Name "isinstance" p) [e, .Name x p2] [] pos) Γ' false (mUn (isiD T) f) :=
  ⟨peImp (pe_callB (call_isS (g := ⟨X.K, C.ct⟩) rfl hT) hgi hi hvi (pa_cons he.pe (pa_cons (pe_bltn hg hm hv (show RelV (.ty T) (Value.type T) from rfl) hn hdb) pa_nil hs2) hs) (by decide) (by decide) hs hpl) fun σ H Q q => by
    refine un_tE (r := fun x H1 Q => rIsS ⟨X.K, C.ct⟩ T [x, .ty T] H1 Q) (fun H M x dx d Q tr sh ho q => ?_) q
    unfold isiD at ho
    cases ht : tyD dx with
    | none => rw [ht] at ho; cases ho
    | some t =>
      rw [ht] at ho
      cases ho
      exact ⟨x, dx, _, t, rfl, sh, ht, q _ H (.refl _) (.bl _)⟩⟩
/-! ## two operands, each read alone or seen -/
def Post2 (K : PySem.W.Frag) (C : Ac) (W : WX) (Γ Γ' : List Nat) (hid : List Addr) (σ : L2.St) (H : Hp) (Q : V → V → Hp → Prop) : R (D × D) → Prop
  | .ok d ρ' => ∀ x y H' tm, ST K C (tm ++ hid) Γ' ρ' σ H' → Stp (Ms σ hid Γ) (Ms σ (tm ++ hid) Γ') hid H H' → (∀ a ∈ tm, a ∉ Ms σ hid Γ') → Shal (gx K C) H' (mask H' (Ms σ (tm ++ hid) Γ')) d.1 x → Shal (gx K C) H' (mask H' (Ms σ (tm ++ hid) Γ')) d.2 y → Q x y H'
  | .exn e ρ' => ∀ cls od H', ExR (gx K C) H' (mask H' (Ms σ C.hid C.io)) e cls od → ST K C C.hid C.io ρ' σ H' → W cls od σ H'
  | .bad => False
structure S2 (X : Cx) (C : Ac) (W : WX) (Γ : List Nat) (a b : Expr) (Γ' : List Nat) (f : Env → R (D × D)) : Prop where
  ex : ∃ ta tb, PE X a ta ∧ PE X b tb ∧ ∀ σ H Rr, (∃ hid ρ, ST X.K C hid Γ ρ σ H ∧ Post2 X.K C W Γ Γ' hid σ H Rr (f ρ)) → ta σ H fun x H1 => tb σ H1 fun y H2 => Rr x y H2
def mPair (f h : Env → R D) : Env → R (D × D) := fun ρ => (f ρ).bind fun x ρ1 => (h ρ1).bind fun y ρ2 => .ok (x, y) ρ2
def mPairO (i : Nat) (h : Env → R D) : Env → R (D × D) := fun ρ => (h ρ).bind fun y ρ2 => match ρ2.getD i none with
  | some x => .ok (x, y) ρ2
  | none => .bad
def mPairR (f : Env → R D) (i : Nat) : Env → R (D × D) := fun ρ => (f ρ).bind fun x ρ2 => match ρ2.getD i none with
  | some y => .ok (x, y) ρ2
  | none => .bad
theorem s2_ee (ha : SE X C W Γ a Γ1 fr1 f) (hb : SE X C W Γ1 b Γ2 fr2 h) : S2 X C W Γ a b Γ2 (mPair f h) := ⟨_, _, ha.pe, hb.pe, fun σ H Rr ⟨hid, ρ, S, p⟩ => by
  unfold mPair at p
  refine two (fr1 := fr1) (fr2 := fr2) S (fun d1 ρ1 d2 ρ2 q1 q2 x y H2 tm S2 k2 t2 v1 v2 => ?_) (fun q => ?_) (fun d1 ρ1 q1 q2 => ?_) (fun e ρ' q => ?_) fun d1 ρ1 e ρ' q1 q2 => ?_
  · rw [q1] at p
    dsimp only [R.bind] at p
    rw [q2] at p
    exact p x y H2 tm S2 k2 t2 v1.shal v2.shal
  · rw [q] at p; exact p
  · rw [q1] at p
    dsimp only [R.bind] at p
    rw [q2] at p; exact p
  · rw [q] at p; exact p
  · rw [q1] at p
    dsimp only [R.bind] at p
    rw [q2] at p; exact p⟩
theorem s2_oe (i : Nat) {x : Str} (hb : SE X C W Γ b Γ2 fr2 h) (hN : X.N[i]? = some x := by rfl) (hv : Vis X.env.scope x := by first | exact Or.inl rfl | exact Or.inr (Or.inl rfl) | exact Or.inr (Or.inr rfl)) (hi : Γ.contains i = true := by rfl) (hi2 : Γ2.contains i = true := by rfl)
    (hd : (x == ("__debug__" : Str)) = false := by decide) (hcd : (x == ("__classdict__" : Str)) = false := by decide) : S2 X C W Γ (.Name x p) b Γ2 (mPairO i h) := ⟨_, _, pe_var hN hv hd hcd, hb.pe, fun σ H Rr ⟨hid, ρ, S, p⟩ => by
  obtain ⟨d0, _, e2, _⟩ := own_at S hi
  refine ⟨_, e2, hid, ρ, S, ?_⟩
  unfold mPairO at p
  cases q : h ρ with
  | bad => rw [q] at p; exact p
  | exn e ρ' => rw [q] at p; exact p
  | ok d2 ρ2 =>
    rw [q] at p
    dsimp only [R.bind] at p
    intro y H2 tm S2 k2 va t2
    obtain ⟨d, e1, _, c⟩ := own_at S2 hi2
    rw [e1] at p
    exact p _ y H2 tm S2 k2 t2 c.shal va.shal0⟩
theorem s2_eo (i : Nat) {x : Str} (ha : SE X C W Γ a Γ2 fr2 f) (hN : X.N[i]? = some x := by rfl) (hv : Vis X.env.scope x := by first | exact Or.inl rfl | exact Or.inr (Or.inl rfl) | exact Or.inr (Or.inr rfl)) (hi2 : Γ2.contains i = true := by rfl)
    (hd : (x == ("__debug__" : Str)) = false := by decide) (hcd : (x == ("__classdict__" : Str)) = false := by decide) : S2 X C W Γ a (.Name x p) Γ2 (mPairR f i) := ⟨_, _, ha.pe, pe_var hN hv hd hcd, fun σ H Rr ⟨hid, ρ, S, p⟩ => by
  refine ⟨hid, ρ, S, ?_⟩
  unfold mPairR at p
  cases q : f ρ with
  | bad => rw [q] at p; exact p
  | exn e ρ' => rw [q] at p; exact p
  | ok d2 ρ2 =>
    rw [q] at p
    dsimp only [R.bind] at p
    intro y H2 tm S2 k2 va t2
    obtain ⟨d, e1, e2, c⟩ := own_at S2 hi2
    rw [e1] at p
    exact ⟨_, e2, p y _ H2 tm S2 k2 t2 va.shal0 c.shal⟩⟩
def OpO (g : Gx) (r : R2) (op : D → D → Option D) : Prop := ∀ (H : Hp) (M : List Addr) (x y : V) (dx dy d : D) (Q : VK), (∀ a ∈ M, H a ≠ none) → Shal g H (mask H M) dx x → Shal g H (mask H M) dy y → op dx dy = some d →
  (∀ q u, H q = none → Cont g (upd H q u) (mask H M) q d → Q (.ref q) (upd H q u)) → r x y H Q
def m2 (op : D → D → Option D) (f : Env → R (D × D)) : Env → R D := fun ρ => (f ρ).bind fun d ρ2 => ofO ρ2 (op d.1 d.2)
variable {f2 : Env → R (D × D)}
theorem m2_tE {ta tb : TE} {op : D → D → Option D} {r : R2} (ho : OpS ⟨X.K, C.ct⟩ r op) (hx : ∀ σ H Rr, (∃ hid ρ, ST X.K C hid Γ ρ σ H ∧ Post2 X.K C W Γ Γ' hid σ H Rr (f2 ρ)) → ta σ H fun x H1 => tb σ H1 fun y H2 => Rr x y H2)
    {σ : L2.St} {H : Hp} {Q : VK} (p : tE X.K C W Γ Γ' false (m2 op f2) σ H Q) : tOp r ta tb σ H Q := by
  obtain ⟨hid, ρ, S, p⟩ := p
  refine hx σ H (fun x y H2 => r x y H2 Q) ⟨hid, ρ, S, ?_⟩
  unfold m2 at p
  cases q : f2 ρ with
  | bad => rw [q] at p; exact p
  | exn e ρ' => rw [q] at p; exact p
  | ok d ρ2 =>
    rw [q] at p
    dsimp only [R.bind] at p
    intro x y H1 tm S1 k1 t1 s1 s2
    cases q2 : op d.1 d.2 with
    | none => rw [q2] at p; exact p.elim
    | some z => rw [q2] at p; exact ho H1 _ x y _ _ z Q S1.trkM s1 s2 q2 (fin_fz p S.sub S1 k1)
theorem m2_tO {ta tb : TE} {op : D → D → Option D} {r : R2} (ho : OpO ⟨X.K, C.ct⟩ r op) (hx : ∀ σ H Rr, (∃ hid ρ, ST X.K C hid Γ ρ σ H ∧ Post2 X.K C W Γ Γ' hid σ H Rr (f2 ρ)) → ta σ H fun x H1 => tb σ H1 fun y H2 => Rr x y H2)
    {σ : L2.St} {H : Hp} {Q : VK} (p : tE X.K C W Γ Γ' true (m2 op f2) σ H Q) : tOp r ta tb σ H Q := by
  obtain ⟨hid, ρ, S, p⟩ := p
  refine hx σ H (fun x y H2 => r x y H2 Q) ⟨hid, ρ, S, ?_⟩
  unfold m2 at p
  cases q : f2 ρ with
  | bad => rw [q] at p; exact p
  | exn e ρ' => rw [q] at p; exact p
  | ok d ρ2 =>
    rw [q] at p
    dsimp only [R.bind] at p
    intro x y H1 tm S1 k1 t1 s1 s2
    cases q2 : op d.1 d.2 with
    | none => rw [q2] at p; exact p.elim
    | some z => rw [q2] at p; exact ho H1 _ x y _ _ z Q S1.trkM s1 s2 q2 (fin_fr p S.sub S1 k1)
theorem se_bin2 {op : Operator} {r : R2} {opD : D → D → Option D} (ho : OpR X (binaryOp op) r) (hs : OpS ⟨X.K, C.ct⟩ r opD) (h2 : S2 X C W Γ a b Γ' f2) : SE X C W Γ (.BinOp a op b pos) Γ' false (m2 opD f2) := by
  obtain ⟨ta, tb, pa, pb, hx⟩ := h2.ex
  exact ⟨peImp (pe_op ho pa pb) fun _ _ _ p => m2_tE hs hx p⟩
theorem se_binO {op : Operator} {r : R2} {opD : D → D → Option D} (ho : OpR X (binaryOp op) r) (hs : OpO ⟨X.K, C.ct⟩ r opD) (h2 : S2 X C W Γ a b Γ' f2) : SE X C W Γ (.BinOp a op b pos) Γ' true (m2 opD f2) := by
  obtain ⟨ta, tb, pa, pb, hx⟩ := h2.ex
  exact ⟨peImp (pe_op ho pa pb) fun _ _ _ p => m2_tO hs hx p⟩
theorem se_cmp2 {op : CmpOp} {r : R2} {opD : D → D → Option D} (ho : OpR X (compareOp op) r) (hs : OpS ⟨X.K, C.ct⟩ r opD) (h2 : S2 X C W Γ a b Γ' f2) (hm : behindInMarks op b = false := by rfl) : SE X C W Γ (.Compare a [op] [b] pos) Γ' false (m2 opD f2) := by
  obtain ⟨ta, tb, pa, pb, hx⟩ := h2.ex
  exact ⟨peImp (pe_cmpR ho pa pb hm) fun _ _ _ p => m2_tE hs hx p⟩
theorem se_ix2 {r : R2} {opD : D → D → Option D} (ho : IxR X r) (hs : OpS ⟨X.K, C.ct⟩ r opD) (h2 : S2 X C W Γ a b Γ' f2) (hm : PlainIx b := by exact fun _ _ => rfl) : SE X C W Γ (.Subscript a b pos) Γ' false (m2 opD f2) := by
  obtain ⟨ta, tb, pa, pb, hx⟩ := h2.ex
  exact ⟨peImp (pe_ix ho pa pb hm) fun _ _ _ p => m2_tE hs hx p⟩
/-! ### a op b op' c -/
def mChain (op op' : D → D → Option D) (f h k : Env → R D) : Env → R D := fun ρ => (f ρ).bind fun x ρ1 => (h ρ1).bind fun y ρ2 => match op x y with
  | some (.bl true) => (k ρ2).bind fun z ρ3 => ofO ρ3 (op' y z)
  | some (.bl false) => .ok (.bl false) ρ2
  | _ => .bad
theorem chain_tE {r r' : R2} {opD opD' : D → D → Option D} (hs : OpS ⟨X.K, C.ct⟩ r opD) (hs' : OpS ⟨X.K, C.ct⟩ r' opD') (hk : okG C.io Γ3 Γ2 = true) {σ : L2.St} {H : Hp} {Q : VK} (pp : tE X.K C W Γ Γ3 false (mChain opD opD' f h k) σ H Q) :
    tChain r r' (tE X.K C W Γ Γ1 fr1 f) (tE X.K C W Γ1 Γ2 fr2 h) (tE X.K C W Γ2 Γ3 fr3 k) σ H Q := by
  obtain ⟨hid, ρ, S, p⟩ := pp
  unfold mChain at p
  refine two (fr1 := fr1) (fr2 := fr2) S (fun d1 ρ1 d2 ρ2 q1 q2 x y H2 tm S2 k2 t2 v1 v2 => ?_) (fun q => ?_) (fun d1 ρ1 q1 q2 => ?_) (fun e ρ' q => ?_) fun d1 ρ1 e ρ' q1 q2 => ?_
  · rw [q1] at p
    dsimp only [R.bind] at p
    rw [q2] at p
    dsimp only [R.bind] at p
    cases q3 : opD d1 d2 with
    | none => rw [q3] at p; exact p.elim
    | some z =>
      rw [q3] at p
      cases z with
      | bl w =>
        refine hs H2 (Ms σ (tm ++ hid) Γ2) x y d1 d2 _ _ S2.trkM v1.shal v2.shal q3 fun v H3 s rv => ?_
        cases rv
        refine ⟨w, rfl, ?_⟩
        have S3 := S2.same s
        have k3 : Stp (Ms σ hid Γ) (Ms σ (tm ++ hid) Γ2) hid H H3 := ⟨k2.le.trans (.of_same (mask_keep fun b o _ e => s b o e)), fun a ha => by
          have e := k2.fx a ha
          rw [← e]
          cases q : H2 a with
          | none => exact absurd q (S2.trk a (List.mem_append_right _ ha)).1
          | some o => exact s a o q⟩
        cases w with
        | false =>
          rw [if_neg Bool.false_ne_true]
          obtain ⟨h1, h2, h3⟩ := okG_of hk
          have S4 := S3.weak h1 h2 h3
          exact fin_fz (tm := tm) p S.sub S4 ⟨k3.le.trans (.of_same (mask_sub (Ms_sub h1))), k3.fx⟩ _ H3 (.refl _) (.bl _)
        | true =>
          rw [if_pos rfl]
          refine ⟨tm ++ hid, ρ2, S3, ?_⟩
          cases q4 : k ρ2 with
          | bad => rw [q4] at p; exact p
          | exn e ρ' => rw [q4] at p; exact p
          | ok d3 ρ3 =>
            rw [q4] at p
            dsimp only [R.bind] at p
            intro z H4 tm4 S4 k4 v4 t4
            cases q5 : opD' d2 d3 with
            | none => rw [q5] at p; exact p.elim
            | some d =>
              rw [q5] at p
              have v2' : Kept (gx X.K C) H4 (Ms σ (tm4 ++ (tm ++ hid)) Γ3) (tm4 ++ tm) d2 y := by
                refine Kept.stp (M := Ms σ (tm ++ hid) Γ2) (H := H3) (hid := hid) ?_ k4 fun a ha => List.mem_append_right _ ha
                rcases v2 with r | ⟨a, ha, rfl, c⟩
                · exact .inl (r.mono (.of_same (mask_keep fun b o _ e => s b o e)))
                · exact .inr ⟨a, ha, rfl, c.mono (fun o e => s _ _ e) (.of_same (mask_keep fun b o _ e => s b o e))⟩
              have e : tm4 ++ (tm ++ hid) = (tm4 ++ tm) ++ hid := (List.append_assoc ..).symm
              rw [e] at S4 k4 v4 v2'
              exact hs' H4 _ y z d2 d3 d Q S4.trkM v2'.shal v4.shal0 q5 (fin_fz p S.sub S4 (k3.trans k4 fun a ha => List.mem_append_right _ ha))
      | _ => exact (show False from p).elim
  · rw [q] at p; exact p
  · rw [q1] at p
    dsimp only [R.bind] at p
    rw [q2] at p; exact p
  · rw [q] at p; exact p
  · rw [q1] at p
    dsimp only [R.bind] at p
    rw [q2] at p; exact p
theorem se_chain {op op' : CmpOp} {r r' : R2} {opD opD' : D → D → Option D} (ho : OpR X (compareOp op) r) (ho' : OpR X (compareOp op') r') (hs : OpS ⟨X.K, C.ct⟩ r opD) (hs' : OpS ⟨X.K, C.ct⟩ r' opD') (ha : SE X C W Γ a Γ1 fr1 f) (hb : SE X C W Γ1 b Γ2 fr2 h) (hc : SE X C W Γ2 c Γ3 fr3 k)
    (hk : okG C.io Γ3 Γ2 = true := by rfl) (hm : lastMarks [op, op'] [b, c] = false := by with_unfolding_all rfl) : SE X C W Γ (.Compare a [op, op'] [b, c] pos) Γ3 false (mChain opD opD' f h k) :=
  ⟨peImp (pe_chain ho ho' ha.pe hb.pe hc.pe hm) fun σ H Q p => chain_tE hs hs' hk p⟩
end
end Ip
namespace Ip
open PySem L2 PySem.Spec PyProof.Rows

/-! ## the operators on data -/
theorem shal_int {g : Gx} {H Hm : Hp} {i : Int} {v : V} (h : Shal g H Hm (.int i) v) : v = .int i := by cases h; rfl
theorem shal_str {g : Gx} {H Hm : Hp} {i : Str} {v : V} (h : Shal g H Hm (.str i) v) : v = .str i := by cases h; rfl
def ifO (b : Prop) [Decidable b] (d : D) : Option D := if b then some d else none
theorem ifO_some {b : Prop} [Decidable b] {d e : D} (h : ifO b d = some e) : b ∧ d = e := by
  unfold ifO at h
  split at h
  · cases h; exact ⟨by assumption, rfl⟩
  · cases h
def addD : D → D → Option D
  | .int i, .int j => some (.int (i + j))
  | .str i, .str j => ifO (i.length + j.length ≤ sizeLine) (.str (i ++ j))
  | _, _ => none
def subD : D → D → Option D
  | .int i, .int j => some (.int (i - j))
  | _, _ => none
def mulD : D → D → Option D
  | .int i, .int j => ifO ((-(2 ^ 64) < j ∧ j < 2 ^ 64) ∨ (-(2 ^ 64) < i ∧ i < 2 ^ 64) ∨ i.natAbs.log2 + j.natAbs.log2 < 1000000) (.int (i * j))
  | _, _ => none
def fdivD : D → D → Option D
  | .int i, .int j => ifO (0 < j ∧ j.natAbs.log2 < 9000) (.int (i / j))
  | _, _ => none
def modD : D → D → Option D
  | .int i, .int j => ifO (0 < j) (.int (i % j))
  | _, _ => none
def powD : D → D → Option D
  | .int i, .int j => ifO (0 ≤ j ∧ j ≤ 1000000 ∧ i.natAbs < 2 ^ 64) (.int (i ^ j.toNat))
  | _, _ => none
def ltD : D → D → Option D
  | .int i, .int j => some (.bl (decide (i < j)))
  | .str i, .str j => some (.bl (decide (i.cps.toList < j.cps.toList)))
  | _, _ => none
def leD : D → D → Option D
  | .int i, .int j => some (.bl (decide (i ≤ j)))
  | .str i, .str j => some (.bl (!decide (j.cps.toList < i.cps.toList)))
  | _, _ => none
def gtD : D → D → Option D
  | .int i, .int j => some (.bl (decide (j < i)))
  | .str i, .str j => some (.bl (decide (j.cps.toList < i.cps.toList)))
  | _, _ => none
def geD : D → D → Option D
  | .int i, .int j => some (.bl (decide (j ≤ i)))
  | .str i, .str j => some (.bl (!decide (i.cps.toList < j.cps.toList)))
  | _, _ => none
theorem or_or {X : Cx} {op : Value → Value → Sem Value} {r r' : R2} (h : OpR X op r) (h' : OpR X op r') : OpR X op (fun x y H Q => r x y H Q ∨ r' x y H Q) := fun pins s σ H x y v u Q I rx ry q => q.elim (h pins s σ H x y v u Q I rx ry) (h' pins s σ H x y v u Q I rx ry)
section
variable {g : Gx}
/-- both ints, or both texts -/
theorem ops_two {rI rS : R2} {op : D → D → Option D} (hn : ∀ a b d, op a b = some d → (∃ i j, a = .int i ∧ b = .int j) ∨ ∃ i j, a = .str i ∧ b = .str j)
    (hI : ∀ i j d H M Q, op (.int i) (.int j) = some d → (∀ v H', Same H H' → RV g (mask H' M) d v → Q v H') → rI (.int i) (.int j) H Q)
    (hS : ∀ i j d H M Q, op (.str i) (.str j) = some d → (∀ v H', Same H H' → RV g (mask H' M) d v → Q v H') → rS (.str i) (.str j) H Q) : OpS g (fun x y H Q => rI x y H Q ∨ rS x y H Q) op := fun H M x y dx dy d Q tr sx sy ho q => by
  rcases hn _ _ _ ho with ⟨i, j, rfl, rfl⟩ | ⟨i, j, rfl, rfl⟩
  · rw [shal_int sx, shal_int sy]; exact .inl (hI i j d H M Q ho q)
  · rw [shal_str sx, shal_str sy]; exact .inr (hS i j d H M Q ho q)
theorem ops_int {r : R2} {op : D → D → Option D} (hn : ∀ a b d, op a b = some d → ∃ i j, a = .int i ∧ b = .int j)
    (hI : ∀ i j d H M Q, op (.int i) (.int j) = some d → (∀ v H', Same H H' → RV g (mask H' M) d v → Q v H') → r (.int i) (.int j) H Q) : OpS g r op := fun H M x y dx dy d Q tr sx sy ho q => by
  obtain ⟨i, j, rfl, rfl⟩ := hn _ _ _ ho
  rw [shal_int sx, shal_int sy]; exact hI i j d H M Q ho q
theorem inv_int {op : D → D → Option D} (h : ∀ a b, op a b ≠ none → ∃ i j, a = .int i ∧ b = .int j) : ∀ a b d, op a b = some d → ∃ i j, a = .int i ∧ b = .int j := fun a b d e => h a b (by rw [e]; simp)
end
section
variable {g : Gx} {X : Cx}
theorem add_ok : OpS g (fun x y H Q => (rI0 fun i j => .int (i + j)) x y H Q ∨ (fun x y H Q => ∃ i j, x = .str i ∧ y = .str j ∧ i.length + j.length ≤ sizeLine ∧ Q (.str (i ++ j)) H) x y H Q) addD :=
  ops_two (fun a b d h => by cases a <;> cases b <;> first | exact .inl ⟨_, _, rfl, rfl⟩ | exact .inr ⟨_, _, rfl, rfl⟩ | cases h)
    (fun i j d H M Q h q => by cases h; exact ⟨i, j, rfl, rfl, q _ H (.refl _) (.int _)⟩)
    fun i j d H M Q h q => by obtain ⟨h1, rfl⟩ := ifO_some h; exact ⟨i, j, rfl, rfl, h1, q _ H (.refl _) (.str _)⟩
theorem sub_ok : OpS g (rI0 fun i j => .int (i - j)) subD :=
  ops_int (fun a b d h => by cases a <;> cases b <;> first | exact ⟨_, _, rfl, rfl⟩ | cases h) fun i j d H M Q h q => by cases h; exact ⟨i, j, rfl, rfl, q _ H (.refl _) (.int _)⟩
theorem mul_ok : OpS g (fun x y H Q => (rI CMul fun i j => .int (i * j)) x y H Q ∨ (rI CMulW fun i j => .int (i * j)) x y H Q) mulD :=
  ops_int (fun a b d h => by cases a <;> cases b <;> first | exact ⟨_, _, rfl, rfl⟩ | cases h) fun i j d H M Q h q => by
    obtain ⟨h1, rfl⟩ := ifO_some h
    rcases h1 with h1 | h1 | h1
    · exact .inl ⟨i, j, rfl, rfl, .inr h1, q _ H (.refl _) (.int _)⟩
    · exact .inl ⟨i, j, rfl, rfl, .inl h1, q _ H (.refl _) (.int _)⟩
    · exact .inr ⟨i, j, rfl, rfl, h1, q _ H (.refl _) (.int _)⟩
theorem fdiv_ok : OpS g (rI CDivW fun i j => .int (i / j)) fdivD :=
  ops_int (fun a b d h => by cases a <;> cases b <;> first | exact ⟨_, _, rfl, rfl⟩ | cases h) fun i j d H M Q h q => by obtain ⟨h1, rfl⟩ := ifO_some h; exact ⟨i, j, rfl, rfl, h1, q _ H (.refl _) (.int _)⟩
theorem mod_ok : OpS g (rI (fun _ j => 0 < j) fun i j => .int (i % j)) modD :=
  ops_int (fun a b d h => by cases a <;> cases b <;> first | exact ⟨_, _, rfl, rfl⟩ | cases h) fun i j d H M Q h q => by obtain ⟨h1, rfl⟩ := ifO_some h; exact ⟨i, j, rfl, rfl, h1, q _ H (.refl _) (.int _)⟩
theorem pow_ok : OpS g (rI CPow fun i j => .int (i ^ j.toNat)) powD :=
  ops_int (fun a b d h => by cases a <;> cases b <;> first | exact ⟨_, _, rfl, rfl⟩ | cases h) fun i j d H M Q h q => by obtain ⟨h1, rfl⟩ := ifO_some h; exact ⟨i, j, rfl, rfl, h1, q _ H (.refl _) (.int _)⟩
theorem lt_ok : OpS g (fun x y H Q => (rI0 fun i j => .bl (decide (i < j))) x y H Q ∨ (fun x y H Q => ∃ i j, x = .str i ∧ y = .str j ∧ Q (.bl (decide (i.cps.toList < j.cps.toList))) H) x y H Q) ltD :=
  ops_two (fun a b d h => by cases a <;> cases b <;> first | exact .inl ⟨_, _, rfl, rfl⟩ | exact .inr ⟨_, _, rfl, rfl⟩ | cases h)
    (fun i j d H M Q h q => by cases h; exact ⟨i, j, rfl, rfl, q _ H (.refl _) (.bl _)⟩) fun i j d H M Q h q => by cases h; exact ⟨i, j, rfl, rfl, q _ H (.refl _) (.bl _)⟩
theorem le_ok : OpS g (fun x y H Q => (rI0 fun i j => .bl (decide (i ≤ j))) x y H Q ∨ (fun x y H Q => ∃ i j, x = .str i ∧ y = .str j ∧ Q (.bl (!decide (j.cps.toList < i.cps.toList))) H) x y H Q) leD :=
  ops_two (fun a b d h => by cases a <;> cases b <;> first | exact .inl ⟨_, _, rfl, rfl⟩ | exact .inr ⟨_, _, rfl, rfl⟩ | cases h)
    (fun i j d H M Q h q => by cases h; exact ⟨i, j, rfl, rfl, q _ H (.refl _) (.bl _)⟩) fun i j d H M Q h q => by cases h; exact ⟨i, j, rfl, rfl, q _ H (.refl _) (.bl _)⟩
theorem gt_ok : OpS g (fun x y H Q => (rI0 fun i j => .bl (decide (j < i))) x y H Q ∨ (fun x y H Q => ∃ i j, x = .str i ∧ y = .str j ∧ Q (.bl (decide (j.cps.toList < i.cps.toList))) H) x y H Q) gtD :=
  ops_two (fun a b d h => by cases a <;> cases b <;> first | exact .inl ⟨_, _, rfl, rfl⟩ | exact .inr ⟨_, _, rfl, rfl⟩ | cases h)
    (fun i j d H M Q h q => by cases h; exact ⟨i, j, rfl, rfl, q _ H (.refl _) (.bl _)⟩) fun i j d H M Q h q => by cases h; exact ⟨i, j, rfl, rfl, q _ H (.refl _) (.bl _)⟩
theorem ge_ok : OpS g (fun x y H Q => (rI0 fun i j => .bl (decide (j ≤ i))) x y H Q ∨ (fun x y H Q => ∃ i j, x = .str i ∧ y = .str j ∧ Q (.bl (!decide (i.cps.toList < j.cps.toList))) H) x y H Q) geD :=
  ops_two (fun a b d h => by cases a <;> cases b <;> first | exact .inl ⟨_, _, rfl, rfl⟩ | exact .inr ⟨_, _, rfl, rfl⟩ | cases h)
    (fun i j d H M Q h q => by cases h; exact ⟨i, j, rfl, rfl, q _ H (.refl _) (.bl _)⟩) fun i j d H M Q h q => by cases h; exact ⟨i, j, rfl, rfl, q _ H (.refl _) (.bl _)⟩
def isN : D → Bool
  | .non => true
  | _ => false
theorem shal_isN {H Hm : Hp} {d : D} {v : V} (h : Shal g H Hm d v) : decide (v = .non) = isN d := by
  cases h <;> rfl
def isNoneD (a b : D) : Option D := if isN b then some (.bl (isN a)) else none
def isNotNoneD (a b : D) : Option D := if isN b then some (.bl (!isN a)) else none
theorem isN_ok : OpS g (fun x y H Q => y = .non ∧ Q (.bl (decide (x = .non))) H) isNoneD := fun H M x y dx dy d Q tr sx sy ho q => by
  cases dy <;> first | (cases ho; cases sy; exact ⟨rfl, q _ H (.refl _) (by rw [shal_isN sx]; exact .bl _)⟩) | cases ho
theorem notN_ok : OpS g (fun x y H Q => y = .non ∧ Q (.bl (!decide (x = .non))) H) isNotNoneD := fun H M x y dx dy d Q tr sx sy ho q => by
  cases dy <;> first | (cases ho; cases sy; exact ⟨rfl, q _ H (.refl _) (by rw [shal_isN sx]; exact .bl _)⟩) | cases ho

/-! ### == -/
mutual
def toPy : D → Option PyData
  | .non => some .none
  | .bl b => some (.bool b)
  | .int i => some (.int i)
  | .str x => some (.str x)
  | .lst ds => (toPys ds).map .list
  | .tup ds => (toPys ds).map .tuple
  | _ => none
def toPys : List D → Option (List PyData)
  | [] => some []
  | d :: ds => match toPy d, toPys ds with
    | some p, some ps => some (p :: ps)
    | _, _ => none
end
mutual
theorem RV.dp {H : Hp} : ∀ (d : D) (v : V) (p : PyData), RV g H d v → toPy d = some p → Dp g.K H v p
  | .non, _, _, r, e => by cases r; cases e; exact .non
  | .bl b, _, _, r, e => by cases r; cases e; exact .bl b
  | .int i, _, _, r, e => by cases r; cases e; exact .int i
  | .str x, _, _, r, e => by cases r; cases e; exact .str x
  | .lst ds, _, p, r, e => by
    cases r with
    | lst h r =>
      unfold toPy at e
      cases q : toPys ds with
      | none => rw [q] at e; cases e
      | some ps => rw [q] at e; cases e; exact .lst h (RVs.dp ds _ ps r q)
  | .tup ds, _, p, r, e => by
    cases r with
    | tup h r =>
      unfold toPy at e
      cases q : toPys ds with
      | none => rw [q] at e; cases e
      | some ps => rw [q] at e; cases e; exact .tup (.of h) (RVs.dp ds _ ps r q)
  | .dic _ _, _, _, _, e => by unfold toPy at e; cases e
  | .dit _ _, _, _, _, e => by unfold toPy at e; cases e
  | .obj _ _ _, _, _, _, e => by unfold toPy at e; cases e
theorem RVs.dp {H : Hp} : ∀ (ds : List D) (vs : List V) (ps : List PyData), RVs g H ds vs → toPys ds = some ps → DpAll g.K H vs ps
  | [], _, _, r, e => by cases r; unfold toPys at e; cases e; exact .nil
  | d :: ds, _, ps, r, e => by
    cases r with
    | cons r t =>
      unfold toPys at e
      cases q1 : toPy d with
      | none => rw [q1] at e; cases e
      | some p =>
        rw [q1] at e
        cases q2 : toPys ds with
        | none => rw [q2] at e; cases e
        | some qs => rw [q2] at e; cases e; exact .cons (RV.dp d _ p r q1) (RVs.dp ds _ qs t q2)
end
def eqD (a b : D) : Option D := match toPy a, toPy b with
  | some p, some q => ifO (SeqAt.shaped p = true ∧ SeqAt.shaped q = true) (.bl (PyData.eqv p q))
  | _, _ => none
def neD (a b : D) : Option D := match toPy a, toPy b with
  | some p, some q => ifO (SeqAt.shaped p = true ∧ SeqAt.shaped q = true) (.bl (!PyData.eqv p q))
  | _, _ => none
theorem eq_ok : OpS g (rEqD g.K) eqD := fun H M x y dx dy d Q tr sx sy ho q => by
  unfold eqD at ho
  cases q1 : toPy dx with
  | none => rw [q1] at ho; cases ho
  | some p =>
    cases q2 : toPy dy with
    | none => rw [q1, q2] at ho; cases ho
    | some p' =>
      rw [q1, q2] at ho
      obtain ⟨⟨h1, h2⟩, rfl⟩ := ifO_some ho
      exact ⟨p, p', RV.dp _ _ _ sx.rv q1, RV.dp _ _ _ sy.rv q2, h1, h2, q _ H (.refl _) (.bl _)⟩
theorem ne_ok : OpS g (rNeD g.K) neD := fun H M x y dx dy d Q tr sx sy ho q => by
  unfold neD at ho
  cases q1 : toPy dx with
  | none => rw [q1] at ho; cases ho
  | some p =>
    cases q2 : toPy dy with
    | none => rw [q1, q2] at ho; cases ho
    | some p' =>
      rw [q1, q2] at ho
      obtain ⟨⟨h1, h2⟩, rfl⟩ := ifO_some ho
      exact ⟨p, p', RV.dp _ _ _ sx.rv q1, RV.dp _ _ _ sy.rv q2, h1, h2, q _ H (.refl _) (.bl _)⟩

/-! ### in -/
def inSD (a b : D) : Option Bool := match a, b with
  | .str x, .str z => match x.cps.toList with
    | [c] => some (decide (c ∈ z.cps.toList))
    | _ => none
  | _, _ => none
def inD (a b : D) : Option D := (inSD a b).map .bl
def notInD (a b : D) : Option D := (inSD a b).map fun k => .bl !k
theorem inSD_inv {a b : D} {k : Bool} (h : inSD a b = some k) : ∃ c z, a = .str ⟨#[c]⟩ ∧ b = .str z ∧ k = decide (c ∈ z.cps.toList) := by
  unfold inSD at h
  cases a <;> cases b <;> first | cases h | skip
  rename_i x z
  dsimp only at h
  split at h
  · rename_i c e
    cases h
    refine ⟨c, z, ?_, rfl, rfl⟩
    cases x
    exact congrArg (fun a => D.str ⟨a⟩) (Array.toList_inj.mp e)
  · cases h
theorem inS_ok : OpS g (fun x y H Q => ∃ (c : Nat) (z : Str), x = .str ⟨#[c]⟩ ∧ y = .str z ∧ Q (.bl (decide (c ∈ z.cps.toList))) H) inD := fun H M x y dx dy d Q tr sx sy ho q => by
  unfold inD at ho
  cases e : inSD dx dy with
  | none => rw [e] at ho; cases ho
  | some k =>
    rw [e] at ho
    cases ho
    obtain ⟨c, z, rfl, rfl, rfl⟩ := inSD_inv e
    rw [shal_str sx, shal_str sy]
    exact ⟨c, z, rfl, rfl, q _ H (.refl _) (.bl _)⟩
theorem notInS_ok : OpS g (fun x y H Q => ∃ (c : Nat) (z : Str), x = .str ⟨#[c]⟩ ∧ y = .str z ∧ Q (.bl (!decide (c ∈ z.cps.toList))) H) notInD := fun H M x y dx dy d Q tr sx sy ho q => by
  unfold notInD at ho
  cases e : inSD dx dy with
  | none => rw [e] at ho; cases ho
  | some k =>
    rw [e] at ho
    cases ho
    obtain ⟨c, z, rfl, rfl, rfl⟩ := inSD_inv e
    rw [shal_str sx, shal_str sy]
    exact ⟨c, z, rfl, rfl, q _ H (.refl _) (.bl _)⟩
/-! ### x[i] -/
def ixD (a b : D) : Option D := match a, b with
  | .lst ds, .int i => atI ds i
  | .tup ds, .int i => atI ds i
  | .str z, .int i => if z.length ≤ sizeLine then (atI z.cps.toList i).map chD else none
  | _, _ => none
theorem atI_len {α β : Type} {xs : List α} {ys : List β} {i : Int} (h : xs.length = ys.length) : ∀ {x : α}, atI xs i = some x → ∃ j : Nat, xs[j]? = some x ∧ ∀ y, ys[j]? = some y → atI ys i = some y := fun {x} e => by
  unfold atI at e ⊢
  rw [← h]
  cases q : ixN xs.length i with
  | none => rw [q] at e; cases e
  | some j => rw [q] at e; exact ⟨j, e, fun y hy => hy⟩
theorem ix_ok : OpS g (rIx g.K) ixD := fun H M x y dx dy d Q tr sx sy ho q => by
  cases dx <;> cases dy <;> first | (cases ho; done) | skip
  · rename_i z i
    cases sx; cases sy
    unfold ixD at ho
    dsimp only at ho
    split at ho
    · rename_i hz
      cases e : atI z.cps.toList i with
      | none => rw [e] at ho; cases ho
      | some c => rw [e] at ho; cases ho; exact .inr (.inr ⟨z, i, c, rfl, rfl, hz, e, q _ H (.refl _) (.str _)⟩)
    · cases ho
  · rename_i ds i
    cases sy
    cases sx with
    | tup h r =>
      obtain ⟨j, h1, h2⟩ := atI_len r.length (show atI ds i = some d from ho)
      obtain ⟨v, e, rv⟩ := r.get h1
      exact .inr (.inl ⟨_, _, i, v, rfl, rfl, .of h, h2 v e, q v H (.refl _) rv⟩)
  · rename_i ds i
    cases sy
    cases sx with
    | lst h r =>
      obtain ⟨j, h1, h2⟩ := atI_len r.length (show atI ds i = some d from ho)
      obtain ⟨v, e, rv⟩ := r.get h1
      exact .inl ⟨_, _, i, v, rfl, rfl, h, h2 v e, q v H (.refl _) rv⟩
/-! ### list + list, text * int -/
def catD : D → D → Option D
  | .lst a, .lst b => ifO (a.length + b.length ≤ sizeLine) (.lst (a ++ b))
  | _, _ => none
def negD : D → Option D
  | .int i => some (.int (-i))
  | _ => none
theorem neg_ok : ∀ (H : Hp) (M : List Addr) (x : V) (dx d : D) (Q : VK), (∀ a ∈ M, H a ≠ none) → Shal g H (mask H M) dx x → negD dx = some d → (∀ v H', Same H H' → RV g (mask H' M) d v → Q v H') → (rU fun i => .int (-i)) x H Q := fun H M x dx d Q tr sx ho q => by
  cases dx <;> first | (cases ho; done) | skip
  cases ho
  cases sx
  exact ⟨_, rfl, q _ H (.refl _) (.int _)⟩
end
end Ip
namespace Ip
open PySem L2 PySem.Spec PyProof.Rows

/-! ## more builtins -/
section
variable {g : Gx} {X : Cx}
theorem shals1 {H Hm : Hp} {d : D} {vs : List V} (h : Shals g H Hm [d] vs) : ∃ v, vs = [v] ∧ Shal g H Hm d v := by
  cases h with
  | cons s t => cases t; exact ⟨_, rfl, s⟩
theorem shals2 {H Hm : Hp} {d e : D} {vs : List V} (h : Shals g H Hm [d, e] vs) : ∃ v u, vs = [v, u] ∧ Shal g H Hm d v ∧ Shal g H Hm e u := by
  cases h with
  | cons s t =>
    obtain ⟨u, rfl, r⟩ := shals1 t
    exact ⟨_, u, rfl, s, r⟩
def oAbs : List D → Option D
  | [.int i] => some (.int (if i < 0 then -i else i))
  | _ => none
theorem cal_abs : CalS g (fun xs H Q => ∃ i, xs = [.int i] ∧ Q (.int (if i < 0 then -i else i)) H) oAbs := fun H M vs ds d Q tr ks ho q => by
  unfold oAbs at ho
  split at ho
  · cases ho
    obtain ⟨v, rfl, s⟩ := shals1 ks
    cases s
    exact ⟨_, rfl, q _ H (.refl _) (.int _)⟩
  · cases ho
def oInt : List D → Option D
  | [.int i] => some (.int i)
  | [.bl k] => some (.int (if k then 1 else 0))
  | _ => none
theorem cal_int : CalS g (fun xs H Q => (∃ i, xs = [.int i] ∧ Q (.int i) H) ∨ ∃ k, xs = [.bl k] ∧ Q (.int (if k then 1 else 0)) H) oInt := fun H M vs ds d Q tr ks ho q => by
  unfold oInt at ho
  split at ho
  · cases ho
    obtain ⟨v, rfl, s⟩ := shals1 ks
    cases s
    exact .inl ⟨_, rfl, q _ H (.refl _) (.int _)⟩
  · cases ho
    obtain ⟨v, rfl, s⟩ := shals1 ks
    cases s
    exact .inr ⟨_, rfl, q _ H (.refl _) (.int _)⟩
  · cases ho
def oMax : List D → Option D
  | [.int i, .int j] => some (.int (if j > i then j else i))
  | _ => none
def oMin : List D → Option D
  | [.int i, .int j] => some (.int (if j < i then j else i))
  | _ => none
theorem cal_max : CalS g (fun xs H Q => ∃ i j, xs = [.int i, .int j] ∧ Q (.int (if j > i then j else i)) H) oMax := fun H M vs ds d Q tr ks ho q => by
  unfold oMax at ho
  split at ho
  · cases ho
    obtain ⟨v, u, rfl, s, t⟩ := shals2 ks
    cases s; cases t
    exact ⟨_, _, rfl, q _ H (.refl _) (.int _)⟩
  · cases ho
theorem cal_min : CalS g (fun xs H Q => ∃ i j, xs = [.int i, .int j] ∧ Q (.int (if j < i then j else i)) H) oMin := fun H M vs ds d Q tr ks ho q => by
  unfold oMin at ho
  split at ho
  · cases ho
    obtain ⟨v, u, rfl, s, t⟩ := shals2 ks
    cases s; cases t
    exact ⟨_, _, rfl, q _ H (.refl _) (.int _)⟩
  · cases ho
def dInts : List D → Option (List Int)
  | [] => some []
  | .int i :: ds => (dInts ds).map (i :: ·)
  | _ :: _ => none
theorem ints_inv : ∀ {ds : List D} {ns : List Int}, dInts ds = some ns → ds = ns.map D.int
  | [], _, h => by cases h; rfl
  | d :: ds, ns, h => by
    cases d with
    | int i =>
      simp only [dInts, Option.map_eq_some_iff] at h
      obtain ⟨ms, h1, rfl⟩ := h
      rw [ints_inv h1]; rfl
    | _ => cases h
def dStrs : List D → Option (List Str)
  | [] => some []
  | .str i :: ds => (dStrs ds).map (i :: ·)
  | _ :: _ => none
theorem strs_inv : ∀ {ds : List D} {ns : List Str}, dStrs ds = some ns → ds = ns.map D.str
  | [], _, h => by cases h; rfl
  | d :: ds, ns, h => by
    cases d with
    | str i =>
      simp only [dStrs, Option.map_eq_some_iff] at h
      obtain ⟨ms, h1, rfl⟩ := h
      rw [strs_inv h1]; rfl
    | _ => cases h
theorem ints_map : ∀ ns : List Int, dInts (ns.map D.int) = some ns
  | [] => rfl
  | n :: ns => by rw [List.map_cons, dInts, ints_map ns]; rfl
theorem strs_map : ∀ ns : List Str, dStrs (ns.map D.str) = some ns
  | [] => rfl
  | n :: ns => by rw [List.map_cons, dStrs, strs_map ns]; rfl
def oSum : List D → Option D
  | [.lst ds] => (dInts ds).map fun ns => .int ns.sum
  | _ => none
theorem cal_sum : CalS g (rSum g.K) oSum := fun H M vs ds d Q tr ks ho q => by
  unfold oSum at ho
  split at ho
  · rename_i ds
    simp only [Option.map_eq_some_iff] at ho
    obtain ⟨ns, h1, rfl⟩ := ho
    have := ints_inv h1
    subst this
    obtain ⟨v, rfl, s⟩ := shals1 ks
    cases s with
    | lst h r =>
      have := r.of_ints
      subst this
      exact ⟨_, ns, rfl, h, q _ H (.refl _) (.int _)⟩
  · cases ho
/-- list(x) of a list or a tuple -/
def oList : List D → Option D
  | [.lst ds] => some (.lst ds)
  | [.tup ds] => some (.lst ds)
  | _ => none
theorem cal_list : CalO g (fun xs H Q => ∃ p ys, xs = [.ref p] ∧ (SqL g.K H p ys ∨ SqT g.K H p ys) ∧ ∀ l, H l = none → Q (.ref l) (upd H l (.lst ys))) oList := fun H M vs ds d Q tr ks ho q => by
  unfold oList at ho
  split at ho
  · cases ho
    obtain ⟨v, rfl, s⟩ := shals1 ks
    cases s with
    | lst h r => exact ⟨_, _, rfl, .inl h, fun l hl => q l _ hl (.lst upd_same r)⟩
  · cases ho
    obtain ⟨v, rfl, s⟩ := shals1 ks
    cases s with
    | tup h r => exact ⟨_, _, rfl, .inr (.of h), fun l hl => q l _ hl (.lst upd_same r)⟩
  · cases ho
/-- list(x) of a text -/
def rListS (_ : PySem.W.Frag) : List V → Hp → VK → Prop := fun xs H Q => ∃ x : Str, xs = [.str x] ∧ x.cps.size ≤ sizeLine ∧ ∀ l, H l = none → Q (.ref l) (upd H l (.lst (x.cps.toList.map fun c => V.str ⟨#[c]⟩)))
theorem vals_signs (x : Str) : ∀ (us : List Value) (n : Nat), us.length + n = x.cps.size → (∀ (i : Nat) (v : Value), us[i]? = some v → SignAt x (n + i) v) → Vals ((x.cps.toList.drop n).map fun c => V.str ⟨#[c]⟩) us
  | [], n, hn, _ => by rw [List.drop_eq_nil_of_le (by simp at hn ⊢; omega)]; exact .nil
  | u :: us, n, hn, h => by
    obtain ⟨c, t, hc, rfl⟩ := h 0 u rfl
    have e : x.cps.toList.drop n = c :: x.cps.toList.drop (n + 1) := by
      have hl : n < x.cps.toList.length := by simp at hn ⊢; omega
      rw [List.drop_eq_getElem_cons hl]
      congr 1
      have h2 : x.cps[n]? = some c := by simpa using hc
      rw [← Array.getElem?_toList, List.getElem?_eq_getElem hl] at h2
      exact Option.some.inj h2
    rw [e]
    refine .cons ⟨t, rfl⟩ (vals_signs x us (n + 1) (by simp at hn ⊢; omega) fun i v hv => ?_)
    have := h (i + 1) v (by simpa using hv)
    rwa [show n + (i + 1) = n + 1 + i by omega] at this
theorem call_listS (hc : X.calm = true) : CallR X (.type "list") (rListS X.K) := by
  intro pins s σ H xs us Q I r h
  obtain ⟨x, rfl, hz, q⟩ := h
  obtain ⟨u, rfl, rx⟩ := vals1 r
  obtain ⟨t, rfl⟩ := rx
  refine call_list_str (I.ok.hd hc) x t (hn := hz) fun h' tk acc' c' hk hS' hacc => ?_
  have rv := vals_signs x acc'.toList 0 (by have := hacc.1; simp [Array.length_toList, this]) fun i v hv => by
    have := hacc.2 i v (by rw [← Array.getElem?_toList]; exact hv)
    rwa [Nat.zero_add]
  rw [List.drop_zero] at rv
  exact ⟨.ref _, _, I.laid (t' := tk) hk (Nat.le_refl _) (o := .lst (x.cps.toList.map fun c => V.str ⟨#[c]⟩)) ⟨by rw [List.length_map, Array.length_toList]; exact hz, acc'.toList, c', rv, by rw [Array.toArray_toList]; exact hS'⟩, rfl, q _ (I.hok.fresh (Nat.le_refl _))⟩
def oListS : List D → Option D
  | [.str x] => ifO (x.cps.size ≤ sizeLine) (.lst (x.cps.toList.map chD))
  | _ => none
theorem rvs_signs {H : Hp} : ∀ l : List Nat, RVs g H (l.map chD) (l.map fun c => V.str ⟨#[c]⟩)
  | [] => .nil
  | c :: l => .cons (.str _) (rvs_signs l)
theorem cal_listS : CalO g (rListS g.K) oListS := fun H M vs ds d Q tr ks ho q => by
  unfold oListS at ho
  split at ho
  · obtain ⟨hz, rfl⟩ := ifO_some ho
    obtain ⟨v, rfl, s⟩ := shals1 ks
    cases s
    exact ⟨_, rfl, hz, fun l hl => q l _ hl (.lst upd_same (rvs_signs _))⟩
  · cases ho
/-- list(d) of a dict whose keys are dInts and texts -/
def oListD : List D → Option D
  | [.dic ks _] => some (.lst ks)
  | _ => none
def isKD : D → Bool
  | .int _ => true
  | .str _ => true
  | _ => false
def oListDK : List D → Option D
  | [.dic ks _] => if ks.all isKD then some (.lst ks) else none
  | _ => none
theorem kT_notK (k : List Key) : isKD (kT k) = false := rfl
theorem rvs_keys {H : Hp} : ∀ (ks : List Key) (vs : List V), ks.length = vs.length → RVs g H (ks.map kD) ((ks.zip vs).map fun kv => kV kv.1)
  | [], _, _ => .nil
  | k :: ks, [], h => by simp at h
  | k :: ks, v :: vs, h => by
    refine .cons ?_ (rvs_keys ks vs (by simpa using h))
    cases k with
    | inl i => exact .int i
    | inr x => exact .str x
theorem rvs_keysT {H : Hp} (vs : List V) (ks : List (List Key)) (h : (ks.map kT).all isKD = true) : ks = [] := by
  cases ks with
  | nil => rfl
  | cons k ks => simp [kT_notK] at h
/-- tuple(x) -/
def oTup : List D → Option D
  | [.lst ds] => some (.tup ds)
  | [.tup ds] => some (.tup ds)
  | _ => none
theorem cal_tup : CalS g (fun xs H Q => ∃ p ys, xs = [.ref p] ∧ ((SqL g.K H p ys ∧ ∀ l, H l = none → Q (.ref l) (upd H l (.tup ys))) ∨ (SqT g.K H p ys ∧ Q (.ref p) H))) oTup := fun H M vs ds d Q tr ks ho q => by
  unfold oTup at ho
  split at ho
  · cases ho
    obtain ⟨v, rfl, s⟩ := shals1 ks
    cases s with
    | @lst _ ws _ h r =>
      refine ⟨_, _, rfl, .inl ⟨h, fun l hl => ?_⟩⟩
      have hn : l ∉ M := fun z => tr l z hl
      have sm := same_upd (o := HO.tup ws) hl
      refine q _ _ sm (.tup ?_ (r.mono (.of_same (mask_keep fun b o _ e => sm b o e))))
      rw [mask_out hn, upd_same]
  · cases ho
    obtain ⟨v, rfl, s⟩ := shals1 ks
    cases s with
    | tup h r hm => exact ⟨_, _, rfl, .inr ⟨.of h, q _ H (.refl _) (.tup hm r)⟩⟩
  · cases ho
end
end Ip
namespace Ip
open PySem L2 PySem.Spec PyProof.Rows

/-! ## list + list -/
def rCatQ (K : PySem.W.Frag) : R2 := fun x y H Q => ∃ a b xs ys, x = .ref a ∧ y = .ref b ∧ SqL K H a xs ∧ SqL K H b ys ∧ xs.length + ys.length ≤ sizeLine ∧ ∀ p, H p = none → Q (.ref p) (upd H p (.lst (xs ++ ys)))
theorem op_catQ {X : Cx} : OpR X (binaryOp .Add) (rCatQ X.K) := by
  intro pins s σ H x y v u Q I rx ry ⟨a, b, xs, ys, ex, ey, ha, hb, hz, q⟩
  subst ex; subst ey
  cases rx; cases ry
  obtain ⟨is1, r1, p1, _⟩ := I.list ha
  obtain ⟨is2, r2, p2, _⟩ := I.list hb
  obtain ⟨⟨c1, dd1, da1, sl1⟩, o1, k1, n1, e1⟩ := p1.isList
  obtain ⟨⟨c2, dd2, da2, sl2⟩, o2, k2, n2, e2⟩ := p2.isList
  simp only at k1 e1 k2 e2
  subst k1; subst e1; subst k2; subst e2
  have hs : is1.toArray.size + is2.toArray.size ≤ sizeLine := by rw [List.size_toArray, List.size_toArray, ← r1.length, ← r2.length]; exact hz
  refine concat_meets ⟨_, o1, rfl⟩ ⟨_, o2, rfl⟩ noFill_list_add seq_list_add PySem.F.slot_list_add PySem.F.entry_list_add (PySem.F.args_list_add_2 _ _) (list_addW a b is1.toArray is2.toArray n1 n2 dd1 dd2 sl1 sl2 hs) ⟨o1, o2, ?_⟩
  rw [show is1.toArray ++ is2.toArray = (is1 ++ is2).toArray by simp]
  exact ⟨.ref _, _, I.lnew (t' := s.toks) (r1.append r2) (by rw [List.length_append]; exact hz), rfl, q _ I.fresh⟩
theorem cat_ok {g : Gx} : OpO g (rCatQ g.K) catD := fun H M x y dx dy d Q tr sx sy ho q => by
  cases dx <;> cases dy <;> first | (cases ho; done) | skip
  obtain ⟨hz, rfl⟩ := ifO_some ho
  cases sx with
  | lst h r =>
    cases sy with
    | lst h' r' => exact ⟨_, _, _, _, rfl, rfl, h, h', by rw [← r.length, ← r'.length]; exact hz, fun l hl => q l _ hl (.lst upd_same (r.app r'))⟩

section
variable {X : Cx} {C : Ac} {W : WX} {Γ Γ1 Γ2 Γ3 Γ' Γb : List Nat} {fr fr1 fr2 fr3 : Bool} {e a b c : Expr} {es : List Expr} {f h k : Env → R D} {g : Env → R (List D)} {p pos apos cpos p2 : Pos}
/-! ## methods of a text -/
def MtV (gg : Gx) (r : V → List V → Hp → VK → Prop) (o : Str → List D → Option D) : Prop := ∀ (H : Hp) (M : List Addr) (x : Str) (vs : List V) (ds : List D) (d : D) (Q : VK), (∀ a ∈ M, H a ≠ none) → Shals gg H (mask H M) ds vs → o x ds = some d →
  (∀ v H', Same H H' → RV gg (mask H' M) d v → Q v H') → r (.str x) vs H Q
def mStrM (o : Str → List D → Option D) (f : Env → R D) (g : Env → R (List D)) : Env → R D := fun ρ => (f ρ).bind fun d ρ1 => match d with
  | .str s => (g ρ1).bind fun ds ρ2 => ofO ρ2 (o s ds)
  | _ => .bad
theorem se_strM {id : String} {name : Str} {r : V → List V → Hp → VK → Prop} {o : Str → List D → Option D} (slot : Slot "str" name id) (hty : typeOf (.builtin id) = pure (.type "method_descriptor")) (hm : MtR X id r) (hs : MtV ⟨X.K, C.ct⟩ r o) (ha : SE X C W Γ a Γ1 fr f) (hv : SV X C W Γ1 (e :: es) Γ2 g)
    (hbase : attributeBase a name X.env (eval a X.env) = eval a X.env := by rfl)
    (hfew : ((backTo cpos (starEach (e :: es) X.env)).all (fun x => !x.1) && (backToKw cpos (keywordEach [] X.env)).all (fun x => x.1.isSome) && decide ((e :: es).length + ([] : List Keyword).length + (if ([] : List Keyword).isEmpty then 0 else 1) < 30)) = true := by rfl)
    (hline : (apos.endLine == cpos.line) = true := by rfl) (hst : starEach (e :: es) X.env = (false, eval e X.env) :: starEach es X.env := by rfl) (hplain : (backTo cpos (starEach es X.env)).any (·.1) = false := by rfl) :
    SE X C W Γ (.Call (.Attribute a name apos) (e :: es) [] cpos) Γ2 false (mStrM o f g) := ⟨peImp (pe_bm PySem.F.plainAttrs_str slot hty hm ha.pe hv.pa hbase hfew hline hst hplain) fun σ H Q ⟨hid, ρ, S, p⟩ => by
  refine ⟨hid, ρ, S, ?_⟩
  unfold mStrM at p
  cases q : f ρ with
  | bad => rw [q] at p; exact p
  | exn e ρ' => rw [q] at p; exact p
  | ok d ρ1 =>
    rw [q] at p
    dsimp only [R.bind] at p
    intro v H1 tm S1 k1 va t1
    cases d with
    | str x =>
      have := shal_str va.shal0
      subst this
      refine ⟨rfl, tm ++ hid, ρ1, S1, ?_⟩
      cases q2 : g ρ1 with
      | bad => simp only [q2] at p; exact p
      | exn e ρ' => simp only [q2] at p; exact p
      | ok ds ρ2 =>
        simp only [q2] at p
        intro vs H2 tm2 S2 k2 t2 ks
        have e : tm2 ++ (tm ++ hid) = (tm2 ++ tm) ++ hid := (List.append_assoc ..).symm
        rw [e] at S2 k2 ks
        cases q3 : o x ds with
        | none => rw [q3] at p; exact p.elim
        | some z => rw [q3] at p; exact hs H2 _ x vs ds z Q S2.trkM ks q3 (fin_fz p S.sub S2 (k1.trans k2 fun a ha => List.mem_append_right _ ha))
    | _ => exact (show False from p).elim⟩
def oJoin (s : Str) : List D → Option D
  | [.lst ds] => (dStrs ds).bind fun ys => ifO ((ys.map (·.length)).sum + ys.length * s.length ≤ 16777216) (.str (Txt.join s ys))
  | [.tup ds] => (dStrs ds).bind fun ys => ifO ((ys.map (·.length)).sum + ys.length * s.length ≤ 16777216) (.str (Txt.join s ys))
  | _ => none
theorem join_ok {gg : Gx} : MtV gg (fun x xs H Q => ∃ a p, ∃ ys : List Str, x = .str a ∧ xs = [.ref p] ∧ (SqL gg.K H p (ys.map V.str) ∨ SqT gg.K H p (ys.map V.str)) ∧ (ys.map (·.length)).sum + ys.length * a.length ≤ 16777216 ∧ Q (.str (Txt.join a ys)) H) oJoin := fun H M x vs ds d Q tr ks ho q => by
  unfold oJoin at ho
  split at ho
  · simp only [Option.bind_eq_some_iff] at ho
    obtain ⟨ys, h1, h2⟩ := ho
    obtain ⟨h3, rfl⟩ := ifO_some h2
    have := strs_inv h1
    subst this
    obtain ⟨v, rfl, s⟩ := shals1 ks
    cases s with
    | lst h r =>
      have := r.of_strs
      subst this
      exact ⟨x, _, ys, rfl, rfl, .inl h, h3, q _ H (.refl _) (.str _)⟩
  · simp only [Option.bind_eq_some_iff] at ho
    obtain ⟨ys, h1, h2⟩ := ho
    obtain ⟨h3, rfl⟩ := ifO_some h2
    have := strs_inv h1
    subst this
    obtain ⟨v, rfl, s⟩ := shals1 ks
    cases s with
    | tup h r =>
      have := r.of_strs
      subst this
      exact ⟨x, _, ys, rfl, rfl, .inr (.of h), h3, q _ H (.refl _) (.str _)⟩
  · cases ho
def oFind (s : Str) : List D → Option D
  | [.str b] => some (.int (Txt.find s b))
  | _ => none
theorem find_ok {gg : Gx} : MtV gg (fun x xs H Q => ∃ a b, x = .str a ∧ xs = [.str b] ∧ Q (.int (Txt.find a b)) H) oFind := fun H M x vs ds d Q tr ks ho q => by
  unfold oFind at ho
  split at ho
  · cases ho
    obtain ⟨v, rfl, s⟩ := shals1 ks
    cases s
    exact ⟨x, _, rfl, rfl, q _ H (.refl _) (.int _)⟩
  · cases ho
/-! ## slices of a text -/
def PostO (K : PySem.W.Frag) (C : Ac) (W : WX) (Γ Γ' : List Nat) (hid : List Addr) (σ : L2.St) (H : Hp) (Q : Option Int → Hp → Prop) : R (Option Int) → Prop
  | .ok o ρ' => ∀ H', ST K C hid Γ' ρ' σ H' → Stp (Ms σ hid Γ) (Ms σ hid Γ') hid H H' → Q o H'
  | .exn e ρ' => ∀ cls od H', ExR (gx K C) H' (mask H' (Ms σ C.hid C.io)) e cls od → ST K C C.hid C.io ρ' σ H' → W cls od σ H'
  | .bad => False
structure SO (X : Cx) (C : Ac) (W : WX) (Γ : List Nat) (e : Option Expr) (Γ' : List Nat) (f : Env → R (Option Int)) : Prop where
  po : PO X e fun σ H Q => ∃ hid ρ, ST X.K C hid Γ ρ σ H ∧ PostO X.K C W Γ Γ' hid σ H Q (f ρ)
theorem poImp {e : Option Expr} {t t' : TO} (h : PO X e t) (i : ∀ σ H Q, t' σ H Q → t σ H Q) : PO X e t' := ⟨fun pins s σ H Q I q => h.run pins s σ H Q I (i σ H Q q)⟩
def mONone : Env → R (Option Int) := fun ρ => .ok none ρ
def mOSome (f : Env → R D) : Env → R (Option Int) := fun ρ => (f ρ).bind fun d ρ1 => match d with
  | .int i => .ok (some i) ρ1
  | _ => .bad
theorem so_none : SO X C W Γ none Γ mONone := ⟨poImp po_none fun σ H Q ⟨hid, ρ, S, p⟩ => p H S (Stp.refl _ _ _)⟩
theorem so_some (ha : SE X C W Γ a Γ' fr f) : SO X C W Γ (some a) Γ' (mOSome f) := ⟨poImp (po_some ha.pe) fun σ H Q ⟨hid, ρ, S, p⟩ => by
  refine ⟨hid, ρ, S, ?_⟩
  unfold mOSome at p
  cases q : f ρ with
  | bad => rw [q] at p; exact p
  | exn e ρ' => rw [q] at p; exact p
  | ok d ρ1 =>
    rw [q] at p
    dsimp only [R.bind] at p
    intro v H1 tm S1 k1 va t1
    cases d with
    | int i =>
      have := shal_int va.shal0
      subst this
      exact ⟨i, rfl, p H1 (S1.forget (fun a ha => List.mem_append_right _ ha) S.sub) ⟨k1.le.trans (.of_same (mask_sub (Ms_subH fun a ha => List.mem_append_right _ ha))), k1.fx⟩⟩
    | _ => exact (show False from p).elim⟩
def mSlice (f : Env → R D) (l u : Env → R (Option Int)) : Env → R D := fun ρ => (f ρ).bind fun d ρ1 => match d with
  | .str z => (l ρ1).bind fun lo ρ2 => (u ρ2).bind fun hi ρ3 => ofO ρ3 (ifO (z.length ≤ sizeLine) (.str (cutS z lo hi)))
  | _ => .bad
variable {lo hi : Option Expr} {l u : Env → R (Option Int)}
theorem se_slice (ha : SE X C W Γ a Γ1 fr f) (hl : SO X C W Γ1 lo Γ2 l) (hu : SO X C W Γ2 hi Γ3 u) : SE X C W Γ (.Subscript a (.Slice lo hi none p2) pos) Γ3 false (mSlice f l u) := ⟨peImp (pe_slice sl_str ha.pe hl.po hu.po) fun σ H Q ⟨hid, ρ, S, p⟩ => by
  refine ⟨hid, ρ, S, ?_⟩
  unfold mSlice at p
  cases q : f ρ with
  | bad => rw [q] at p; exact p
  | exn e ρ' => rw [q] at p; exact p
  | ok d ρ1 =>
    rw [q] at p
    dsimp only [R.bind] at p
    intro v H1 tm S1 k1 va t1
    cases d with
    | str x =>
      have := shal_str va.shal0
      subst this
      have S1' := S1.forget (fun a ha => List.mem_append_right _ ha) S.sub
      have k1' : Stp (Ms σ hid Γ) (Ms σ hid Γ1) hid H H1 := ⟨k1.le.trans (.of_same (mask_sub (Ms_subH fun a ha => List.mem_append_right _ ha))), k1.fx⟩
      refine ⟨hid, ρ1, S1', ?_⟩
      cases q2 : l ρ1 with
      | bad => simp only [q2] at p; exact p
      | exn e ρ' => simp only [q2] at p; exact p
      | ok o1 ρ2 =>
        simp only [q2] at p
        intro H2 S2 k2
        refine ⟨hid, ρ2, S2, ?_⟩
        cases q3 : u ρ2 with
        | bad => simp only [q3] at p; exact p
        | exn e ρ' => simp only [q3] at p; exact p
        | ok o2 ρ3 =>
          simp only [q3] at p
          intro H3 S3 k3
          unfold ifO at p
          by_cases hz : x.length ≤ sizeLine
          · rw [if_pos hz] at p
            exact ⟨x, rfl, hz, fin_fz (tm := []) p S.sub S3 ((k1'.trans k2 fun _ z => z).trans k3 fun _ z => z) _ H3 (.refl _) (.str _)⟩
          · rw [if_neg hz] at p; exact p.elim
    | _ => exact (show False from p).elim⟩
/-! ## methods of an owned list -/
def lstO : Option D → Option (List D)
  | some (.lst ds) => some ds
  | _ => none
theorem lstO_some {o : Option D} {ds : List D} (h : lstO o = some ds) : o = some (.lst ds) := by
  unfold lstO at h
  split at h
  · cases h; rfl
  · cases h
def mLstM (i : Nat) (step : List D → List D → Option (D × List D)) (g : Env → R (List D)) : Env → R D := fun ρ => match lstO (ρ.getD i none) with
  | none => .bad
  | some _ => (g ρ).bind fun xs ρ1 => match lstO (ρ1.getD i none) with
    | none => .bad
    | some ds => match step ds xs with
      | none => .bad
      | some z => .ok z.1 (ρ1.set i (some (.lst z.2)))
def LsM (gg : Gx) (r : V → List V → Hp → VK → Prop) (step : List D → List D → Option (D × List D)) : Prop := ∀ (H : Hp) (M : List Addr) (a : Addr) (us ws : List V) (ds xs : List D) (z : D × List D) (Q : VK), H a = some (.lst us) → RVs gg (mask H M) ds us → RVs gg (mask H M) xs ws → step ds xs = some z →
  (∀ us' v, RVs gg (mask H M) z.2 us' → RV gg (mask H M) z.1 v → Q v (upd H a (.lst us'))) → r (.ref a) ws H Q
theorem lsm_tE (i : Nat) {r : V → List V → Hp → VK → Prop} {step : List D → List D → Option (D × List D)} (hs : LsM ⟨X.K, C.ct⟩ r step) (ha : SA X C W Γ es Γ' g) (hi : Γ.contains i = true) (hi2 : Γ'.contains i = true) {σ : L2.St} {H : Hp} {Q : VK} (p : tE X.K C W Γ Γ' false (mLstM i step g) σ H Q) :
    tBM X.K "list" r (tVar i) (tAs X.K C W Γ Γ' g) σ H Q := by
  obtain ⟨hid, ρ, S, p⟩ := p
  obtain ⟨d0, e1, e2, c0⟩ := own_at S hi
  refine ⟨_, e2, ?_⟩
  unfold mLstM at p
  cases q0 : lstO (ρ.getD i none) with
  | none => rw [q0] at p; exact (show False from p).elim
  | some ds0 =>
    simp only [q0] at p
    have e0 := lstO_some q0
    rw [e1] at e0
    cases e0
    refine ⟨?_, hid, ρ, S, ?_⟩
    · cases c0 with
      | lst h _ => exact .inl ⟨rfl, _, .of h⟩
    · cases q : g ρ with
      | bad => rw [q] at p; exact p
      | exn e ρ' => rw [q] at p; exact p
      | ok xs ρ1 =>
        rw [q] at p
        dsimp only [R.bind] at p
        intro vs H1 tm S1 k1 t1 ks
        have sub : ∀ b ∈ Ms σ hid Γ', b ∈ Ms σ (tm ++ hid) Γ' := Ms_subH fun a ha => List.mem_append_right _ ha
        have S2 := S1.forget (fun a ha => List.mem_append_right _ ha) S.sub
        have k2 : Stp (Ms σ hid Γ) (Ms σ hid Γ') hid H H1 := ⟨k1.le.trans (.of_same (mask_sub sub)), k1.fx⟩
        have rv : RVs (gx X.K C) (mask H1 (Ms σ hid Γ')) xs vs := ks.rv sub t1
        obtain ⟨d1, f1, f2, c1⟩ := own_at S2 hi2
        cases q1 : lstO (ρ1.getD i none) with
        | none => rw [q1] at p; exact (show False from p).elim
        | some ds =>
          simp only [q1] at p
          have e0 := lstO_some q1
          rw [f1] at e0
          cases e0
          cases q3 : step ds xs with
          | none => rw [q3] at p; exact (show False from p).elim
          | some z =>
            simp only [q3] at p
            cases c1 with
            | @lst us _ h r1 =>
              have hm : sa σ i ∈ Ms σ hid Γ' := mem_Ms.mpr (.inr ⟨i, List.contains_iff_mem.mp hi2, rfl⟩)
              refine hs H1 (Ms σ hid Γ') _ us vs ds xs z Q h r1 rv q3 fun us' v r2 r3 => ?_
              refine p v _ [] (S2.change (List.contains_iff_mem.mp hi2) (.lst upd_same r2)) (k2.trans (S2.changeStp (List.contains_iff_mem.mp hi2)) fun _ z => z) (.fz ?_ fun z => nomatch z) fun _ z => nomatch z
              show RV (gx X.K C) (mask (upd H1 (sa σ i) (.lst us')) (Ms σ hid Γ')) z.1 v
              rw [mask_updM hm]
              exact r3
theorem se_lstM (i : Nat) {x name : Str} {id : String} {r : V → List V → Hp → VK → Prop} {step : List D → List D → Option (D × List D)} (slot : Slot "list" name id) (hty : typeOf (.builtin id) = pure (.type "method_descriptor")) (hm : MtM X id r) (hs : LsM ⟨X.K, C.ct⟩ r step) (ha : SA X C W Γ (e :: es) Γ' g)
    (hN : X.N[i]? = some x := by rfl) (hv : Vis X.env.scope x := by first | exact Or.inl rfl | exact Or.inr (Or.inl rfl) | exact Or.inr (Or.inr rfl)) (hi : Γ.contains i = true := by rfl) (hi2 : Γ'.contains i = true := by rfl)
    (hd : (x == ("__debug__" : Str)) = false := by decide) (hcd : (x == ("__classdict__" : Str)) = false := by decide)
    (hbase : attributeBase (.Name x p) name X.env (eval (.Name x p) X.env) = eval (.Name x p) X.env := by rfl)
    (hfew : ((backTo cpos (starEach (e :: es) X.env)).all (fun x => !x.1) && (backToKw cpos (keywordEach [] X.env)).all (fun x => x.1.isSome) && decide ((e :: es).length + ([] : List Keyword).length + (if ([] : List Keyword).isEmpty then 0 else 1) < 30)) = true := by rfl)
    (hline : (apos.endLine == cpos.line) = true := by rfl) (hst : starEach (e :: es) X.env = (false, eval e X.env) :: starEach es X.env := by rfl) (hplain : (backTo cpos (starEach es X.env)).any (·.1) = false := by rfl) :
    SE X C W Γ (.Call (.Attribute (.Name x p) name apos) (e :: es) [] cpos) Γ' false (mLstM i step g) :=
  ⟨peImp (pe_bm PySem.F.plainAttrs_list slot hty hm (pe_var hN hv hd hcd) ha.pa hbase hfew hline hst hplain) fun σ H Q p => lsm_tE i hs ha hi hi2 p⟩
theorem se_lstM0 (i : Nat) {x name : Str} {id : String} {r : V → List V → Hp → VK → Prop} {step : List D → List D → Option (D × List D)} (slot : Slot "list" name id) (hty : typeOf (.builtin id) = pure (.type "method_descriptor")) (hm : MtM X id r) (hs : LsM ⟨X.K, C.ct⟩ r step)
    (hN : X.N[i]? = some x := by rfl) (hv : Vis X.env.scope x := by first | exact Or.inl rfl | exact Or.inr (Or.inl rfl) | exact Or.inr (Or.inr rfl)) (hi : Γ.contains i = true := by rfl)
    (hd : (x == ("__debug__" : Str)) = false := by decide) (hcd : (x == ("__classdict__" : Str)) = false := by decide)
    (hbase : attributeBase (.Name x p) name X.env (eval (.Name x p) X.env) = eval (.Name x p) X.env := by rfl) (hline : (apos.endLine == cpos.line) = true := by rfl) :
    SE X C W Γ (.Call (.Attribute (.Name x p) name apos) [] [] cpos) Γ false (mLstM i step mNil) :=
  ⟨peImp (pe_bm0 PySem.F.plainAttrs_list slot hty hm (pe_var hN hv hd hcd) hbase hline) fun σ H Q p => by
    obtain ⟨v, e, ty, hid, ρ, S, q⟩ := lsm_tE i hs sa_nil hi hi p
    exact ⟨v, e, ty, q [] H [] S (Stp.refl _ _ _) (fun _ z => nomatch z) .nil⟩⟩
def stAppend (ds : List D) : List D → Option (D × List D)
  | [d] => if ds.length < sizeLine then some (.non, ds ++ [d]) else none
  | _ => none
theorem append_ok {gg : Gx} : LsM gg rAppend stAppend := fun H M a us ws ds xs z Q h r rx e q => by
  unfold stAppend at e
  split at e
  · split at e
    · rename_i hl
      cases e
      cases rx with
      | cons r1 rn =>
        cases rn
        exact ⟨a, us, _, rfl, rfl, h, by rw [← r.length]; exact hl, q _ .non (r.app (.cons r1 .nil)) .non⟩
    · cases e
  · cases e
def stPopAt (ds : List D) : List D → Option (D × List D)
  | [.int i] => if -(2 ^ 63) ≤ i ∧ i < 2 ^ 63 then (seqIndex? i ds.length).bind fun k => ds[k]?.map fun d => (d, ds.eraseIdx k) else none
  | _ => none
theorem popAt_ok {gg : Gx} : LsM gg rPopAt stPopAt := fun H M a us ws ds xs z Q h r rx e q => by
  unfold stPopAt at e
  split at e
  · split at e
    · rename_i hl
      simp only [Option.bind_eq_some_iff, Option.map_eq_some_iff] at e
      obtain ⟨k, e1, d, e2, rfl⟩ := e
      cases rx with
      | cons r1 rn =>
        cases rn
        cases r1
        obtain ⟨v, e3, rv⟩ := r.get e2
        exact ⟨a, us, _, k, v, rfl, rfl, h, hl.1, hl.2, by rw [← r.length]; exact e1, e3, q _ v (r.eraseIdx k) rv⟩
    · cases e
  · cases e
/-! ## x[e] = v, x an owned list -/
def mSetIx (i : Nat) (f h : Env → R D) : Env → R Fl := fun ρ => (f ρ).bind fun v ρ1 => (h ρ1).bind fun k ρ2 => match k, lstO (ρ2.getD i none) with
  | .int j, some ds => match ixN ds.length j with
    | some n => .ok .nx (ρ2.set i (some (.lst (ds.set n v))))
    | none => .bad
  | _, _ => .bad
end
end Ip
namespace Ip
open PySem L2 PySem.Spec PyProof.Rows

/-! ## targets -/
def Off (ts : List Nat) (σ σ' : L2.St) : Prop := σ'.length = σ.length ∧ ∀ j, j ∉ ts → σ'[j]? = σ[j]?
theorem Off.refl (ts : List Nat) (σ : L2.St) : Off ts σ σ := ⟨rfl, fun _ _ => rfl⟩
theorem Off.trans {t1 t2 : List Nat} {a b c : L2.St} (h : Off t1 a b) (k : Off t2 b c) : Off (t1 ++ t2) a c :=
  ⟨k.1.trans h.1, fun j hj => (k.2 j fun z => hj (List.mem_append_right _ z)).trans (h.2 j fun z => hj (List.mem_append_left _ z))⟩
def tG (K : PySem.W.Frag) (C : Ac) (Γ : List Nat) (ts : List Nat) (g : D → Env → Option Env) : TG := fun v σ H Q => ∃ hid ρ d ρ', ST K C hid Γ ρ σ H ∧ RV (gx K C) (mask H (Ms σ hid Γ)) d v ∧ g d ρ = some ρ' ∧
  ∀ σ' H', ST K C hid Γ ρ' σ' H' → Stp (Ms σ hid Γ) (Ms σ' hid Γ) hid H H' → Off ts σ σ' → Q σ' H'
def tGs (K : PySem.W.Frag) (C : Ac) (Γ : List Nat) (ts : List Nat) (g : List D → Env → Option Env) : TGs := fun vs σ H Q => ∃ hid ρ ds ρ', ST K C hid Γ ρ σ H ∧ RVs (gx K C) (mask H (Ms σ hid Γ)) ds vs ∧ g ds ρ = some ρ' ∧
  ∀ σ' H', ST K C hid Γ ρ' σ' H' → Stp (Ms σ hid Γ) (Ms σ' hid Γ) hid H H' → Off ts σ σ' → Q σ' H'
structure SG (X : Cx) (C : Ac) (Γ : List Nat) (tg : Expr) (ts : List Nat) (g : D → Env → Option Env) : Prop where
  pg : PG X tg (tG X.K C Γ ts g)
structure SGs (X : Cx) (C : Ac) (Γ : List Nat) (es : List Expr) (ts : List Nat) (g : List D → Env → Option Env) : Prop where
  pg : PGs X es (tGs X.K C Γ ts g)
theorem pgImp {X : Cx} {e : Expr} {t t' : TG} (h : PG X e t) (i : ∀ v σ H Q, t' v σ H Q → t v σ H Q) : PG X e t' := ⟨fun pins s σ H v u Q I r q => h.run pins s σ H v u Q I r (i v σ H Q q)⟩
theorem pgsImp {X : Cx} {e : List Expr} {t t' : TGs} (h : PGs X e t) (i : ∀ v σ H Q, t' v σ H Q → t v σ H Q) : PGs X e t' := ⟨fun pins s σ H v u Q I r q => h.run pins s σ H v u Q I r (i v σ H Q q)⟩
def gNm (i : Nat) (d : D) (ρ : Env) : Option Env := if i < ρ.length then some (ρ.set i (some d)) else none
def gsNil (ds : List D) (ρ : Env) : Option Env := match ds with
  | [] => some ρ
  | _ => none
def gsCons (g : D → Env → Option Env) (gs : List D → Env → Option Env) (ds : List D) (ρ : Env) : Option Env := match ds with
  | d :: r => (g d ρ).bind fun ρ' => gs r ρ'
  | [] => none
def gTp (n : Nat) (gs : List D → Env → Option Env) (d : D) (ρ : Env) : Option Env := match d with
  | .tup ds => if ds.length = n then gs ds ρ else none
  | _ => none
section
variable {X : Cx} {C : Ac} {W : WX} {Γ Γ1 Γ2 Γ3 Γ' Γb : List Nat} {fr fr1 fr2 fr3 : Bool} {e a b c tg iter : Expr} {es : List Expr} {ts ts2 : List Nat} {f h k : Env → R D} {g : D → Env → Option Env} {gs : List D → Env → Option Env} {p pos apos cpos p2 : Pos}
theorem sg_name (i : Nat) {x : Str} (hN : X.N.Nodup) (hi : X.N[i]? = some x := by rfl) (hx : Loc X.env.scope x := by first | exact Or.inl rfl | exact Or.inr rfl) (hn : Γ.contains i = false := by rfl)
    (hf : X.fn x = true ∨ X.env.scope.names.lookup x = some .local := by first | exact .inl rfl | exact .inr rfl | assumption) : SG X C Γ (.Name x pos) [i] (gNm i) := ⟨pgImp (pg_name hN hi hx hf) fun v σ H Q ⟨hid, ρ, d, ρ', S, r, e, q⟩ => by
  unfold gNm at e
  split at e
  · rename_i il
    cases e
    refine q _ H (S.put (notin_of hn) r il) ?_ ⟨List.length_set .., fun j hj => List.getElem?_set_ne fun z => hj (by simp [z])⟩
    rw [Ms_set (notin_of hn)]
    exact Stp.refl _ _ _
  · cases e⟩
theorem sgs_nil : SGs X C Γ [] [] gsNil := ⟨pgsImp pgs_nil fun v σ H Q ⟨hid, ρ, ds, ρ', S, r, e, q⟩ => by
  cases r with
  | nil => cases e; exact ⟨rfl, q σ H S (Stp.refl _ _ _) (.refl _ _)⟩
  | cons _ _ => cases e⟩
theorem sgs_cons (h1 : SG X C Γ e ts g) (h2 : SGs X C Γ es ts2 gs) (hs : (assignEach (e :: es) X.env).map (·.2) = assign e X.env :: (assignEach es X.env).map (·.2) := by rfl) : SGs X C Γ (e :: es) (ts ++ ts2) (gsCons g gs) := ⟨pgsImp (pgs_cons h1.pg h2.pg hs) fun v σ H Q ⟨hid, ρ, ds, ρ', S, r, e, q⟩ => by
  cases r with
  | nil => cases e
  | @cons d v ds vs r t =>
    unfold gsCons at e
    simp only [Option.bind_eq_some_iff] at e
    obtain ⟨ρ1, e1, e2⟩ := e
    refine ⟨v, vs, rfl, hid, ρ, d, ρ1, S, r, e1, fun σ1 H1 S1 k1 o1 => ⟨hid, ρ1, ds, ρ', S1, t.mono k1.le, e2, fun σ2 H2 S2 k2 o2 => q σ2 H2 S2 (k1.trans k2 fun _ z => z) (o1.trans o2)⟩⟩⟩
theorem sg_tup {n m : Nat} (hc : X.calm = true) (h1 : SGs X C Γ es ts gs) (hn : (assignEach es X.env).length = n := by rfl) (hst : (assignEach es X.env).findIdx? (·.1) = none := by rfl) : SG X C Γ (.Tuple es m pos) ts (gTp n gs) := ⟨pgImp (pg_tup hc h1.pg hn hst) fun v σ H Q ⟨hid, ρ, d, ρ', S, r, e, q⟩ => by
  unfold gTp at e
  split at e
  · split at e
    · rename_i hl
      cases r with
      | tup h r => exact ⟨_, _, rfl, .of (mask_some h).2, by rw [← r.length]; exact hl, hid, ρ, _, ρ', S, r, e, q⟩
    · cases e
  · cases e⟩
/-! ### target = value -/
def mAsg (f : Env → R D) (g : D → Env → Option Env) : Env → R Fl := fun ρ => (f ρ).bind fun d ρ1 => match g d ρ1 with
  | some ρ2 => .ok .nx ρ2
  | none => .bad
theorem ss_asg (ha : SE X C W Γ e Γ' false f) (hg : SG X C Γ' tg ts g) (hs : swapsWithSole [tg] e pos.line X.env = pure false := by rfl) (hw : swappedStores [tg] e X.env = pure none := by rfl)
    (h1 : (assignEach [tg] X.env).map (·.2) = [assign tg X.env] := by rfl) : SS X C W Γ (.Assign [tg] e pos) Γ' Γb fr (mAsg f g) := ⟨psImp (ps_asg ha.pe hg.pg hs hw h1) fun Dn σ H ⟨ρ, S, p⟩ => by
  refine ⟨C.hid, ρ, S, ?_⟩
  unfold mAsg at p
  cases q : f ρ with
  | bad => rw [q] at p; exact p
  | exn e ρ' => rw [q] at p; exact fun cls od H' x S' => p cls od σ H' x S'
  | ok d ρ1 =>
    rw [q] at p
    dsimp only [R.bind] at p
    intro v H1 tm S1 k1 va t1
    cases va with
    | fz r _ =>
      cases q2 : g d ρ1 with
      | none => rw [q2] at p; exact (show False from p).elim
      | some ρ2 =>
        rw [q2] at p
        exact ⟨C.hid, ρ1, d, ρ2, S1, r, q2, fun σ' H' S' k' _ => p σ' H' S' (k1.trans k' fun _ z => z)⟩⟩
/-! ### x[e] = v, x an owned list -/
def gIx (i : Nat) (h : Env → R D) (v : D) (ρ : Env) : Option Env := match lstO (ρ.getD i none), h ρ with
  | some _, .ok (.int j) ρ1 => (lstO (ρ1.getD i none)).bind fun ds => (ixN ds.length j).map fun n => ρ1.set i (some (.lst (ds.set n v)))
  | _, _ => none
theorem sg_ix (i : Nat) {x : Str} (hb : SE X C W Γ b Γ fr h) (hN : X.N[i]? = some x := by rfl) (hv : Vis X.env.scope x := by first | exact Or.inl rfl | exact Or.inr (Or.inl rfl) | exact Or.inr (Or.inr rfl)) (hi : Γ.contains i = true := by rfl)
    (hd : (x == ("__debug__" : Str)) = false := by decide) (hcd : (x == ("__classdict__" : Str)) = false := by decide)
    (ha : ∀ v, assign (.Subscript (.Name x p) b pos) X.env v = (do
      let ov ← holding [v] (eval (.Name x p) X.env)
      let iv ← holding [v, ov] (eval b X.env)
      standAt pos
      holding [v, ov, iv] (setItem ov iv v)
      release [v, ov, iv] []) := by intro _; rfl) : SG X C Γ (.Subscript (.Name x p) b pos) [] (gIx i h) := ⟨pgImp (pg_sub (pe_var hN hv hd hcd) hb.pe set_list ha) fun v σ H Q ⟨hid, ρ, d, ρ', S, r, e, q⟩ => by
  obtain ⟨d0, e1, e2, c0⟩ := own_at S hi
  refine ⟨_, e2, hid, ρ, S, ?_⟩
  unfold gIx at e
  split at e
  · rename_i j ρ1 _ q2
    rw [q2]
    simp only [Option.bind_eq_some_iff, Option.map_eq_some_iff] at e
    obtain ⟨ds, e3, n, e4, rfl⟩ := e
    intro y H2 tm S2 k2 va t2
    have := shal_int va.shal0
    subst this
    obtain ⟨d1, f1, f2, c1⟩ := own_at S2 hi
    have e0 := lstO_some e3
    rw [f1] at e0
    cases e0
    have S3 := S2.forget (fun a ha => List.mem_append_right _ ha) S.sub
    have sub : ∀ b ∈ Ms σ hid Γ, b ∈ Ms σ (tm ++ hid) Γ := Ms_subH fun a ha => List.mem_append_right _ ha
    have k3 : Stp (Ms σ hid Γ) (Ms σ hid Γ) hid H H2 := ⟨k2.le.trans (.of_same (mask_sub sub)), k2.fx⟩
    obtain ⟨d1, f1', _, c2⟩ := own_at S3 hi
    rw [f1] at f1'
    cases f1'
    cases c2 with
    | @lst us _ h r1 =>
      refine ⟨_, us, j, n, rfl, rfl, h, by rw [← r1.length]; exact e4, ?_⟩
      exact q σ _ (S3.change (List.contains_iff_mem.mp hi) (.lst upd_same (r1.set (r.mono k3.le) n))) (k3.trans (S3.changeStp (List.contains_iff_mem.mp hi)) fun _ z => z) (.refl _ _)
  · cases e⟩
/-! ## for -/
def forL (step : D → Env → R Fl) : List D → Env → R Fl
  | [], ρ => .ok .nx ρ
  | d :: ds, ρ => match step d ρ with
    | .ok .nx ρ' => forL step ds ρ'
    | .ok .ct ρ' => forL step ds ρ'
    | .ok .bk ρ' => .ok .nx ρ'
    | .ok (.rt z) ρ' => .ok (.rt z) ρ'
    | .exn e ρ' => .exn e ρ'
    | .bad => .bad
def gBody (g : D → Env → Option Env) (body : Env → R Fl) (d : D) (ρ : Env) : R Fl := match g d ρ with
  | some ρ' => body ρ'
  | none => .bad
def mFor (it : Env → R (List D)) (g : D → Env → Option Env) (body : Env → R Fl) : Env → R Fl := fun ρ => (it ρ).bind fun ds ρ' => forL (gBody g body) ds ρ'
variable {fi : Env → R (List D)} {fb : Env → R Fl} {body : List Stmt}
theorem for_ok {Dn : Ends} {σ : L2.St} {H : Hp} (p : tS X.K C W Γ Γ' Γb fr (mFor fi g fb) Dn σ H) :
    tFor (fun σ H Q => ∃ hid ρ, ST X.K C hid Γ ρ σ H ∧ PostI X.K C W Γ Γ' hid σ H Q (fi ρ)) (tG X.K C Γ' ts g) (tS X.K C W Γ' Γ' Γ' fr fb) Dn σ H := by
  obtain ⟨ρ, S, p⟩ := p
  refine ⟨C.hid, ρ, S, ?_⟩
  unfold mFor at p
  cases q : fi ρ with
  | bad => rw [q] at p; exact p
  | exn e ρ' => rw [q] at p; exact fun cls od H' x S' => p cls od σ H' x S'
  | ok ds ρ1 =>
    rw [q] at p
    dsimp only [R.bind] at p
    intro J H1 S1 k1 ⟨Gd, Y, w, hG, hY⟩
    refine for_it w (fun i σ2 H2 => ∃ ρ2, ST X.K C C.hid Γ' ρ2 σ2 H2 ∧ Stp (Ms σ C.hid Γ') (Ms σ2 C.hid Γ') C.hid H1 H2 ∧ PostS X.K C W Γ Γ' Γb fr Dn σ H (forL (gBody g fb) (ds.drop i) ρ2)) ⟨ρ1, S1, Stp.refl _ _ _, by rw [List.drop_zero]; exact p⟩
      (fun i σ2 H2 _ ⟨ρ2, S2, k2, _⟩ => hG _ _ k2.le) (fun i x σ2 H2 H3 hlt ⟨ρ2, S2, k2, p2⟩ y => ?_) fun σ2 H2 ⟨ρ2, S2, k2, p2⟩ => ?_
    · have hd : ds[i]? = some ds[i] := List.getElem?_eq_getElem hlt
      rw [List.drop_eq_getElem_cons hlt] at p2
      obtain ⟨sm, rv⟩ := hY i x H2 H3 _ hd (hG _ _ k2.le) y
      have r := rv (Ms σ2 C.hid Γ') S2.hdM k2.le
      have S3 := S2.same sm
      have k3 : Stp (Ms σ2 C.hid Γ') (Ms σ2 C.hid Γ') C.hid H2 H3 := ⟨.of_same (mask_keep fun b o _ e => sm b o e), fun a ha => by
        cases z : H2 a with
        | none => exact absurd z (S2.trk a ha).1
        | some o => exact sm a o z⟩
      unfold forL gBody at p2
      cases q2 : g ds[i] ρ2 with
      | none => rw [q2] at p2; exact (show False from p2).elim
      | some ρ3 =>
        rw [q2] at p2
        refine ⟨C.hid, ρ2, ds[i], ρ3, S3, r, q2, fun σ4 H4 S4 k4 _ => ⟨ρ3, S4, ?_⟩⟩
        have ka : Stp (Ms σ C.hid Γ') (Ms σ4 C.hid Γ') C.hid H1 H4 := (k2.trans k3 fun _ z => z).trans k4 fun _ z => z
        cases q3 : fb ρ3 with
        | bad => simp only [q3] at p2; exact p2
        | exn e ρ' => simp only [q3] at p2; exact p2
        | ok fl ρ5 =>
          simp only [q3] at p2
          cases fl with
          | nx => exact fun σ5 H5 S5 k5 => ⟨ρ5, S5, ka.trans k5 fun _ z => z, p2⟩
          | ct => exact fun σ5 H5 S5 k5 => ⟨ρ5, S5, ka.trans k5 fun _ z => z, p2⟩
          | bk => exact fun σ5 H5 S5 k5 => p2 σ5 H5 S5 ((k1.trans ka fun _ z => z).trans k5 fun _ z => z)
          | rt z => exact p2
    · rw [List.drop_length] at p2
      exact p2 σ2 H2 S2 (k1.trans k2 fun _ z => z)
theorem ss_for (hp : PassesOwn (model X.prog X.w) X.A X.env X.xe) (hc : X.calm = true) (hi : SI X C W Γ tg iter Γ' fi) (hg : SG X C Γ' tg ts g) (hb : SSs X C W Γ' body Γ' Γ' fr fb) (hs : ∀ x, foldedSetIterable iter X.env x = pure x := by intro _; rfl) :
    SS X C W Γ (.For tg iter body [] pos) Γ' Γb fr (mFor fi g fb) := ⟨psImp (ps_for hp hc hi.pi hg.pg hb.ps hs) fun Dn σ H p => for_ok p⟩
theorem ss_breakW (hk : okG C.io Γ2 Γ = true := by rfl) : SS X C W Γ (.Break pos) Γ' Γ2 fr (fun ρ => .ok .bk ρ) := ⟨psImp ps_break fun Dn σ H ⟨ρ, S, p⟩ => by
  obtain ⟨h1, h2, h3⟩ := okG_of hk
  exact p σ H (S.weak h1 h2 h3) (ST.weakStp (K := X.K) (Stp.refl _ _ _) h1)⟩
theorem ss_continueW (hk : okG C.io Γ2 Γ = true := by rfl) : SS X C W Γ (.Continue pos) Γ' Γ2 fr (fun ρ => .ok .ct ρ) := ⟨psImp ps_continue fun Dn σ H ⟨ρ, S, p⟩ => by
  obtain ⟨h1, h2, h3⟩ := okG_of hk
  exact p σ H (S.weak h1 h2 h3) (ST.weakStp (K := X.K) (Stp.refl _ _ _) h1)⟩
end
end Ip
namespace Ip
open PySem L2 PySem.Spec PyProof.Rows

/-! ## comprehensions -/
def wipeE (ρ : Env) : List Nat → Env
  | [] => ρ
  | v :: vs => (wipeE ρ vs).set v none
def restE (ρ0 ρ : Env) : List Nat → Env
  | [] => ρ
  | v :: vs => (restE ρ0 ρ vs).set v (ρ0.getD v none)
theorem wipeE_length (ρ : Env) : ∀ vs : List Nat, (wipeE ρ vs).length = ρ.length
  | [] => rfl
  | v :: vs => by unfold wipeE; rw [List.length_set, wipeE_length ρ vs]
theorem restE_length (ρ0 ρ : Env) : ∀ vs : List Nat, (restE ρ0 ρ vs).length = ρ.length
  | [] => rfl
  | v :: vs => by unfold restE; rw [List.length_set, restE_length ρ0 ρ vs]
theorem wipeE_out {ρ : Env} {i : Nat} : ∀ {vs : List Nat}, i ∉ vs → (wipeE ρ vs)[i]? = ρ[i]?
  | [], _ => rfl
  | v :: vs, h => by
    unfold wipeE
    rw [List.getElem?_set_ne fun e => h (by simp [e])]
    exact wipeE_out fun z => h (by simp [z])
theorem wipeE_in {ρ : Env} {i : Nat} {d : D} : ∀ {vs : List Nat}, i ∈ vs → (wipeE ρ vs)[i]? ≠ some (some d)
  | v :: vs, h => fun e => by
    unfold wipeE at e
    by_cases z : v = i
    · subst z
      rw [List.getElem?_set] at e
      split at e
      · split at e <;> cases e
      · contradiction
    · rw [List.getElem?_set_ne z] at e
      exact wipeE_in ((List.mem_cons.mp h).resolve_left fun q => z q.symm) e
theorem restE_out {ρ0 ρ : Env} {i : Nat} : ∀ {vs : List Nat}, i ∉ vs → (restE ρ0 ρ vs)[i]? = ρ[i]?
  | [], _ => rfl
  | v :: vs, h => by
    unfold restE
    rw [List.getElem?_set_ne fun e => h (by simp [e])]
    exact restE_out fun z => h (by simp [z])
theorem restE_in {ρ0 ρ : Env} {i : Nat} (hi : i < ρ.length) (h0 : i < ρ0.length) : ∀ {vs : List Nat}, i ∈ vs → (restE ρ0 ρ vs)[i]? = ρ0[i]?
  | v :: vs, h => by
    unfold restE
    by_cases z : v = i
    · subst z
      rw [List.getElem?_set_self (by rw [restE_length]; exact hi), List.getD_eq_getElem?_getD, List.getElem?_eq_getElem h0]
      rfl
    · rw [List.getElem?_set_ne z]
      exact restE_in hi h0 ((List.mem_cons.mp h).resolve_left fun q => z q.symm)
theorem wipe_in {σ : L2.St} {i : Nat} {v : V} : ∀ {vs : List Nat}, i ∈ vs → (wipe σ vs)[i]? ≠ some (some v) := fun {vs} h e => (wipe_some e).2 h
theorem wipe_off {ts vs : List Nat} {σ σ' : L2.St} (o : Off ts σ σ') (h : ∀ i ∈ ts, i ∈ vs) : wipe σ' vs = wipe σ vs := by
  have key : ∀ (ws : List Nat) (a b : L2.St), a.length = b.length → (∀ j, j ∉ ws → a[j]? = b[j]?) → wipe a ws = wipe b ws := by
    intro ws
    induction ws with
    | nil => intro a b hl e; exact List.ext_getElem? fun j => e j (by simp)
    | cons w ws ih =>
      intro a b hl e
      unfold wipe
      refine List.ext_getElem? fun j => ?_
      by_cases z : w = j
      · subst z
        rw [List.getElem?_set, List.getElem?_set]
        simp [wipe_length, hl]
      · rw [List.getElem?_set_ne z, List.getElem?_set_ne z]
        by_cases q : j ∈ ws
        · have ha : ¬ ∃ v, (wipe a ws)[j]? = some (some v) := fun ⟨v, e⟩ => wipe_in q e
          have hb : ¬ ∃ v, (wipe b ws)[j]? = some (some v) := fun ⟨v, e⟩ => wipe_in q e
          by_cases hj : j < a.length
          · have h1 : j < (wipe a ws).length := by rw [wipe_length]; exact hj
            have h2 : j < (wipe b ws).length := by rw [wipe_length, ← hl]; exact hj
            rw [List.getElem?_eq_getElem h1, List.getElem?_eq_getElem h2]
            cases q1 : (wipe a ws)[j] with
            | some v => exact absurd ⟨v, by rw [List.getElem?_eq_getElem h1, q1]⟩ ha
            | none =>
              cases q2 : (wipe b ws)[j] with
              | some v => exact absurd ⟨v, by rw [List.getElem?_eq_getElem h2, q2]⟩ hb
              | none => rfl
          · rw [List.getElem?_eq_none (by rw [wipe_length]; omega), List.getElem?_eq_none (by rw [wipe_length, ← hl]; omega)]
        · rw [wipe_out q, wipe_out q]
          exact e j (by simp [q, Ne.symm z])
  exact key vs σ' σ o.1 fun j hj => o.2 j fun z => hj (h j z)
section
variable {K : PySem.W.Frag} {C : Ac} {hid : List Addr} {Γ : List Nat} {ρ ρ0 : Env} {σ σ0 : L2.St} {H H0 : Hp} {vs : List Nat}
theorem sa_wipe (h : ∀ i ∈ Γ, i ∉ vs) : Γ.map (sa (wipe σ vs)) = Γ.map (sa σ) := List.map_congr_left fun i hi => by unfold sa; rw [wipe_out (h i hi)]
theorem Ms_wipe (h : ∀ i ∈ Γ, i ∉ vs) : Ms (wipe σ vs) hid Γ = Ms σ hid Γ := by unfold Ms; rw [sa_wipe h]
theorem ST.wipe (S : ST K C hid Γ ρ σ H) (h : ∀ i ∈ Γ, i ∉ vs) : ST K C hid Γ (wipeE ρ vs) (L2.wipe σ vs) H := by
  have e : ∀ i ∈ Γ, sa (L2.wipe σ vs) i = sa σ i := fun i hi => by unfold sa; rw [wipe_out (h i hi)]
  refine ⟨by rw [wipeE_length, wipe_length]; exact S.len, S.sub, S.trk, S.tmp, by rw [sa_wipe h]; exact S.nd, fun i hi => by rw [e i hi]; exact S.dis i hi, fun i hi => by rw [e i hi]; exact S.own i hi, S.frm, S.frh, S.gro, S.io, by rw [sa_wipe fun i hi => h i (S.io i hi)]; exact S.pin, fun i d hi q => ?_, fun i hi => ?_⟩
  · by_cases z : i ∈ vs
    · exact absurd q (wipeE_in z)
    · rw [wipeE_out z] at q
      rw [wipe_out z, Ms_wipe h]
      exact S.sl i d hi q
  · rw [Ms_wipe h, wipeE_out (h i hi), wipe_out (h i hi), e i hi]
    exact S.ow i hi
theorem ST.unwipe (S0 : ST K C hid Γ ρ0 σ0 H0) (S : ST K C hid Γ ρ (L2.wipe σ0 vs) H) (h : ∀ i ∈ Γ, i ∉ vs) (le : HLe (mask H0 (Ms σ0 hid Γ)) (mask H (Ms σ0 hid Γ))) : ST K C hid Γ (restE ρ0 ρ vs) σ0 H := by
  have e : ∀ i ∈ Γ, sa (L2.wipe σ0 vs) i = sa σ0 i := fun i hi => by unfold sa; rw [wipe_out (h i hi)]
  have hl : ρ.length = σ0.length := by rw [S.len, wipe_length]
  refine ⟨by rw [restE_length]; exact hl, S.sub, S.trk, S.tmp, S0.nd, S0.dis, S0.own, S.frm, S.frh, S.gro, S.io, S0.pin, fun i d hi q => ?_, fun i hi => ?_⟩
  · by_cases z : i ∈ vs
    · by_cases hi2 : i < ρ.length
      · rw [restE_in hi2 (by rw [S0.len, ← hl]; exact hi2) z] at q
        obtain ⟨v, e1, r⟩ := S0.sl i d hi q
        exact ⟨v, e1, r.mono le⟩
      · rw [List.getElem?_eq_none (by rw [restE_length]; omega)] at q; cases q
    · rw [restE_out z] at q
      obtain ⟨v, e1, r⟩ := S.sl i d hi q
      rw [wipe_out z] at e1
      rw [Ms_wipe h] at r
      exact ⟨v, e1, r⟩
  · obtain ⟨d, e1, e2, c⟩ := S.ow i hi
    rw [wipe_out (h i hi), e i hi] at e2
    rw [Ms_wipe h, e i hi] at c
    exact ⟨d, by rw [restE_out (h i hi)]; exact e1, e2, c⟩
theorem ST.tmpSet {D : Addr} {o : HO} (S : ST K C (D :: hid) Γ ρ σ H) (hD : D ∉ hid) (hs : ∀ a ∈ C.hid, a ∈ hid) (hu : ∀ vs, o ≠ .tup vs := by intro _ z; cases z) : ST K C (D :: hid) Γ ρ σ (upd H D o) := by
  have hM : D ∈ Ms σ (D :: hid) Γ := mem_Ms.mpr (.inl List.mem_cons_self)
  have em := mask_updM (H := H) (o := o) hM
  have nC : D ∉ C.hid := fun z => hD (hs D z)
  have h0 : C.H0 D = none := (S.tmp D List.mem_cons_self).resolve_left nC
  have trk : ∀ a, H a ≠ none → upd H D o a ≠ none := fun a ha => by
    by_cases q : a = D
    · rw [q, upd_same]; simp
    · rw [upd_ne q]; exact ha
  have out : ∀ {A : List Addr} {b : Addr} {u : HO}, mask C.H0 A b = some u → b ≠ D := fun e z => by
    have := (mask_some e).2
    rw [z, h0] at this; cases this
  have up : ∀ {A : List Addr} {b : Addr} {u : HO}, b ≠ D → mask H A b = some u → mask (upd H D o) A b = some u := fun n e => by
    obtain ⟨e1, e2⟩ := mask_some e
    rw [mask_out e1, upd_ne n]; exact e2
  refine ⟨S.len, S.sub, fun a ha => by
    by_cases q : a = D
    · rw [q]; exact ⟨by rw [upd_same]; simp, fun vs => by rw [upd_same]; exact fun z => hu vs (Option.some.inj z)⟩
    · exact (S.trk a ha).of (upd_ne q), S.tmp, S.nd, S.dis, S.own, ⟨fun b u e n => up (out e) (S.frm.o b u e n), fun b kv e => ?_, fun b kv e => ?_⟩, fun a ha => by rw [upd_ne (show a ≠ D from fun z => nC (z ▸ ha))]; exact S.frh a ha, fun a ha => trk a (S.gro a ha), S.io, S.pin, fun i d hi q => by rw [em]; exact S.sl i d hi q, fun i hi => ?_⟩
  · have n : b ≠ D := by rcases e with e | ⟨_, e⟩ <;> exact out e
    exact (S.frm.k b kv e).elim (fun e => .inl (up n e)) fun ⟨u, e⟩ => .inr ⟨u, up n e⟩
  · have n : b ≠ D := by rcases e with e | ⟨_, e⟩ <;> exact out e
    exact (S.frm.t b kv e).elim (fun e => .inl (up n e)) fun ⟨u, e⟩ => .inr ⟨u, up n e⟩
  · obtain ⟨d, e1, e2, c⟩ := S.ow i hi
    rw [em]
    exact ⟨d, e1, e2, c.mono (fun u z => by rw [upd_ne fun e => S.dis i hi (by rw [e]; exact List.mem_cons_self)]; exact z) (.refl _)⟩
theorem Stp.tmpSet {M M' : List Addr} {D : Addr} {o : HO} {H1 : Hp} (k : Stp M M' hid H H1) (hM : D ∈ M') (hD : D ∉ hid) : Stp M M' hid H (upd H1 D o) :=
  ⟨by rw [mask_updM hM]; exact k.le, fun a ha => by rw [upd_ne (show a ≠ D from fun z => hD (z ▸ ha))]; exact k.fx a ha⟩
end
def Wn : WX := fun _ _ _ _ => False
def mYes : Env → R Bool := fun ρ => .ok true ρ
structure SPs (X : Cx) (C : Ac) (W : WX) (Γ : List Nat) (ifs : List Expr) (Γ' : List Nat) (f : Env → R Bool) : Prop where
  pt : PTs X ifs (tT X.K C W Γ Γ' f)
theorem sps_nil {X : Cx} {C : Ac} {W : WX} {Γ : List Nat} : SPs X C W Γ [] Γ mYes := ⟨⟨fun pins s σ H Q I ⟨hid, ρ, S, p⟩ => pts_nil.run pins s σ H Q I (p H S (Stp.refl _ _ _))⟩⟩
theorem sps_one {X : Cx} {C : Ac} {W : WX} {Γ Γ' : List Nat} {c : Expr} {f : Env → R Bool} (h : SP X C W Γ c Γ' f) : SPs X C W Γ [c] Γ' f := ⟨pts_one h.pt⟩
def compL (g : D → Env → Option Env) (tst : Env → R Bool) (f : Env → R D) (vs : List Nat) : List D → Env → List D → R (List D)
  | [], ρ, acc => .ok acc ρ
  | d :: ds, ρ, acc => match g d ρ with
    | none => .bad
    | some ρ1 => match tst ρ1 with
      | .ok true ρ2 => match f ρ2 with
        | .ok y ρ3 => if acc.length < sizeLine then compL g tst f vs ds (wipeE ρ3 vs) (acc ++ [y]) else .bad
        | _ => .bad
      | .ok false ρ2 => compL g tst f vs ds (wipeE ρ2 vs) acc
      | _ => .bad
def mLc (fi : Env → R (List D)) (g : D → Env → Option Env) (tst : Env → R Bool) (f : Env → R D) (vs : List Nat) : Env → R D := fun ρ => (fi ρ).bind fun ds ρ1 => match compL g tst f vs ds (wipeE ρ1 vs) [] with
  | .ok acc ρ2 => .ok (.lst acc) (restE ρ1 ρ2 vs)
  | _ => .bad
section
variable {X : Cx} {C : Ac} {W : WX} {Γ Γ0 Γ1 Γ2 Γ3 Γ' Γb : List Nat} {fr fr1 fr2 fr3 : Bool} {e a b c tg iter elt kx vx : Expr} {es ifs : List Expr} {ts : List Nat} {f h k : Env → R D} {g : D → Env → Option Env} {tst : Env → R Bool} {p pos apos cpos p2 : Pos} {fi : Env → R (List D)} {scope : Scope} {own : List (Str × Nat)}
/-- the new list D stands beside as a temporary while the turns go on -/
theorem lc_ok (hv : ∀ i ∈ Γ, i ∉ own.map (·.2)) (ht : ∀ i ∈ ts, i ∈ own.map (·.2)) {σ : L2.St} {H : Hp} {Q : VK} (p : tE X.K C W Γ0 Γ true (mLc fi g tst f (own.map (·.2))) σ H Q) :
    tLc (fun σ H Q => ∃ hid ρ, ST X.K C hid Γ0 ρ σ H ∧ PostI X.K C W Γ0 Γ hid σ H Q (fi ρ)) (tG X.K C Γ ts g) (tT X.K C Wn Γ Γ tst) (tE X.K C Wn Γ Γ fr f) (own.map (·.2)) σ H Q := by
  obtain ⟨hid, ρ, S, p⟩ := p
  refine ⟨hid, ρ, S, ?_⟩
  unfold mLc at p
  cases q : fi ρ with
  | bad => rw [q] at p; exact p
  | exn e ρ' => rw [q] at p; exact p
  | ok ds ρ1 =>
    rw [q] at p
    dsimp only [R.bind] at p
    intro J H1 S1 k1 ⟨Gd, Y, w, hG, hY⟩ D hD
    generalize hvs : own.map (·.2) = vs at *
    have kh := S1.holdStp (o := HO.lst []) hD
    have S2 := S1.hold (o := HO.lst []) hD
    have hDn : D ∉ hid := fun z => (S1.trk D z).1 hD
    have hDM : D ∈ Ms σ (D :: hid) Γ := mem_Ms.mpr (.inl List.mem_cons_self)
    refine lc_it w (fun i H2 => ∃ ρ2 accD acc, ST X.K C (D :: hid) Γ ρ2 (L2.wipe σ vs) H2 ∧ Stp (Ms σ hid Γ) (Ms σ (D :: hid) Γ) hid H1 H2 ∧ H2 D = some (.lst acc) ∧ RVs (gx X.K C) (mask H2 (Ms σ (D :: hid) Γ)) accD acc ∧
      PostE X.K C W Γ0 Γ true hid σ H Q (match compL g tst f vs (ds.drop i) ρ2 accD with | .ok acc ρ2 => .ok (.lst acc) (restE ρ1 ρ2 vs) | _ => .bad)) ?_ (fun i H2 _ ⟨ρ2, _, _, _, k2, _⟩ => hG _ _ k2.le) (fun i x H2 H3 hlt ⟨ρ2, accD, acc, S2, k2, hl, ra, p2⟩ y => ?_) fun H2 ⟨ρ2, accD, acc, S2, k2, hl, ra, p2⟩ => ?_
    · refine ⟨wipeE ρ1 vs, [], [], S2.wipe hv, kh, upd_same, .nil, ?_⟩
      rw [List.drop_zero]; exact p
    · have hd : ds[i]? = some ds[i] := List.getElem?_eq_getElem hlt
      rw [List.drop_eq_getElem_cons hlt] at p2
      obtain ⟨sm, rv⟩ := hY i x H2 H3 _ hd (hG _ _ k2.le) y
      have eM : Ms (L2.wipe σ vs) (D :: hid) Γ = Ms σ (D :: hid) Γ := Ms_wipe hv
      have r := rv (Ms σ (D :: hid) Γ) (by rw [← eM]; exact S2.hdM) k2.le
      have S3 := S2.same sm
      have keep : ∀ {A B : Hp}, Same A B → (∀ a ∈ hid, A a ≠ none) → Stp (Ms σ (D :: hid) Γ) (Ms σ (D :: hid) Γ) hid A B := fun {A B} sm tr => ⟨.of_same (mask_keep fun b o _ e => sm b o e), fun a ha => by
        cases z : A a with
        | none => exact absurd z (tr a ha)
        | some o => exact sm a o z⟩
      have k3 : Stp (Ms σ hid Γ) (Ms σ (D :: hid) Γ) hid H1 H3 := k2.trans (keep sm fun a ha => (S2.trk a (List.mem_cons_of_mem _ ha)).1) fun _ z => z
      have hl3 : H3 D = some (.lst acc) := sm _ _ hl
      have ra3 : RVs (gx X.K C) (mask H3 (Ms σ (D :: hid) Γ)) accD acc := ra.mono (.of_same (mask_keep fun b o _ e => sm b o e))
      unfold compL at p2
      cases q2 : g ds[i] ρ2 with
      | none => simp only [q2] at p2; exact (show False from p2).elim
      | some ρ3 =>
        simp only [q2] at p2
        refine ⟨D :: hid, ρ2, ds[i], ρ3, S3, by rw [eM]; exact r, q2, fun σ4 H4 S4 k4 o4 => ?_⟩
        have ew : L2.wipe σ4 vs = L2.wipe σ vs := by
          rw [wipe_off o4 ht]
          exact wipe_off (ts := vs) ⟨wipe_length .., fun j hj => wipe_out hj⟩ fun _ z => z
        have eM4 : Ms σ4 (D :: hid) Γ = Ms σ (D :: hid) Γ := by rw [← Ms_wipe (σ := σ4) hv, ew, eM]
        refine ⟨ew, D :: hid, ρ3, S4, ?_⟩
        rw [eM, eM4] at k4
        have k4' : Stp (Ms σ hid Γ) (Ms σ (D :: hid) Γ) hid H1 H4 := k3.trans k4 fun a ha => List.mem_cons_of_mem _ ha
        have hl4 : H4 D = some (.lst acc) := (k4.fx D List.mem_cons_self).trans hl3
        cases q3 : tst ρ3 with
        | bad => simp only [q3] at p2; exact p2
        | exn e ρ' => simp only [q3] at p2; exact (show False from p2).elim
        | ok b ρ4 =>
          simp only [q3] at p2
          intro H5 S5 k5
          rw [eM4] at k5
          have k5' : Stp (Ms σ hid Γ) (Ms σ (D :: hid) Γ) hid H1 H5 := k4'.trans k5 fun a ha => List.mem_cons_of_mem _ ha
          have hl5 : H5 D = some (.lst acc) := (k5.fx D List.mem_cons_self).trans hl4
          have ra5 : RVs (gx X.K C) (mask H5 (Ms σ (D :: hid) Γ)) accD acc := (ra3.mono k4.le).mono k5.le
          cases b with
          | false =>
            rw [if_neg Bool.false_ne_true]
            refine ⟨wipeE ρ4 vs, accD, acc, by rw [← ew]; exact S5.wipe hv, k5', hl5, ra5, p2⟩
          | true =>
            rw [if_pos rfl]
            refine ⟨D :: hid, ρ4, S5, ?_⟩
            cases q4 : f ρ4 with
            | bad => simp only [q4] at p2; exact p2
            | exn e ρ' => simp only [q4] at p2; exact (show False from p2).elim
            | ok y ρ5 =>
              simp only [q4] at p2
              intro v H6 tm S6 k6 va t6
              rw [eM4] at k6
              have sub : ∀ b ∈ Ms σ4 (D :: hid) Γ, b ∈ Ms σ4 (tm ++ (D :: hid)) Γ := Ms_subH fun a ha => List.mem_append_right _ ha
              have S7 := S6.forget (hid' := D :: hid) (fun a ha => List.mem_append_right _ ha) S5.sub
              have k7 : Stp (Ms σ (D :: hid) Γ) (Ms σ (D :: hid) Γ) (D :: hid) H5 H6 := ⟨k6.le.trans (.of_same (mask_sub (by rw [← eM4]; exact sub))), k6.fx⟩
              have rv6 : RV (gx X.K C) (mask H6 (Ms σ (D :: hid) Γ)) y v := by rw [← eM4]; exact va.rv sub t6
              have hl6 : H6 D = some (.lst acc) := (k6.fx D List.mem_cons_self).trans hl5
              have ra6 : RVs (gx X.K C) (mask H6 (Ms σ (D :: hid) Γ)) accD acc := ra5.mono k7.le
              have hal : accD.length < sizeLine := by
                by_cases z : accD.length < sizeLine
                · exact z
                · rw [if_neg z] at p2; exact (show False from p2).elim
              rw [if_pos hal] at p2
              refine ⟨acc, hl6, by rw [← ra6.length]; exact hal, wipeE ρ5 vs, accD ++ [y], acc ++ [v], ?_, ?_, upd_same, ?_, p2⟩
              · have S8 := S7.wipe hv
                rw [ew] at S8
                exact S8.tmpSet hDn S.sub
              · exact (k5'.trans k7 fun a ha => List.mem_cons_of_mem _ ha).tmpSet hDM hDn
              · rw [mask_updM hDM]
                exact ra6.app (.cons rv6 .nil)
    · rw [List.drop_length] at p2
      have S0 := S1.hold (o := HO.lst []) hD
      refine p2 (.ref D) H2 [D] (ST.unwipe S0 S2 hv ?_) (k1.trans k2 fun _ z => z) (.fr (.lst hl ra)) fun b hb => ?_
      · refine HLe.trans (.of_same fun b u e => ?_) k2.le
        obtain ⟨e1, e2⟩ := mask_some e
        have hb : b ≠ D := fun z => e1 (z ▸ hDM)
        rw [upd_ne hb] at e2
        have hm : b ∉ Ms σ hid Γ := fun z => e1 (Ms_subH (hid := D :: hid) (fun a ha => List.mem_cons_of_mem _ ha) b z)
        rw [mask_out hm]
        exact e2
      · rw [List.mem_singleton.mp hb]; exact S1.none_out hD
/-- [elt for target in iter if ..] -/
theorem se_lc {ρs : List Nat} (hc : X.calm = true) (hN : X.N.Nodup) (ok : BlkOk X.N X.env.scope scope own) (hi : SI X C W Γ0 tg iter Γ fi) (hg : ∀ (s : Shared) (H : Hp) (Cc : Addr) (cl : List (Str × Addr)) (fp : List Addr), SG (X.blk s H scope (compEnvC scope cl Cc X.env) fp) C Γ tg ts g)
    (ht : ∀ (s : Shared) (H : Hp) (Cc : Addr) (cl : List (Str × Addr)) (fp : List Addr), SPs (X.blk s H scope (compEnvC scope cl Cc X.env) fp) C Wn Γ ifs Γ tst) (he : ∀ (s : Shared) (H : Hp) (Cc : Addr) (cl : List (Str × Addr)) (fp : List Addr), SE (X.blk s H scope (compEnvC scope cl Cc X.env) fp) C Wn Γ elt Γ fr f)
    (hρ : ρs = own.map (·.2) := by rfl) (hv : (Γ.all fun i => !ρs.contains i) = true := by rfl) (hts : (ts.all fun i => ρs.contains i) = true := by rfl) (hs : ∀ x, foldedSetIterable iter X.env x = pure x := by intro _; rfl) : SE X C W Γ0 (.ListComp elt [⟨tg, iter, ifs, 0⟩] scope pos) Γ true (mLc fi g tst f ρs) := by
  subst hρ
  exact ⟨peImp (pe_lc hc hN hi.pi ok (fun s H Cc cl fp => (hg s H Cc cl fp).pg) (fun s H Cc cl fp => (ht s H Cc cl fp).pt) (fun s H Cc cl fp => (he s H Cc cl fp).pe) hs) fun σ H Q p =>
    lc_ok (fun i hi z => by have := List.all_eq_true.mp hv i hi; rw [List.contains_iff_mem.mpr z] at this; cases this) (fun i hi => List.contains_iff_mem.mp (List.all_eq_true.mp hts i hi)) p⟩
/-- x = [..] on one line -/
theorem ss_setLc (i : Nat) {ρs : List Nat} {x : Str} {pos' spos : Pos} (hc : X.calm = true) (hN : X.N.Nodup) (ok : BlkOk X.N X.env.scope scope own) (hi : SI X C W Γ0 tg iter Γ fi) (hg : ∀ (s : Shared) (H : Hp) (Cc : Addr) (cl : List (Str × Addr)) (fp : List Addr), SG (X.blk s H scope (compEnvC scope cl Cc X.env) fp) C Γ tg ts g)
    (ht : ∀ (s : Shared) (H : Hp) (Cc : Addr) (cl : List (Str × Addr)) (fp : List Addr), SPs (X.blk s H scope (compEnvC scope cl Cc X.env) fp) C Wn Γ ifs Γ tst) (he : ∀ (s : Shared) (H : Hp) (Cc : Addr) (cl : List (Str × Addr)) (fp : List Addr), SE (X.blk s H scope (compEnvC scope cl Cc X.env) fp) C Wn Γ elt Γ fr f)
    (hx : X.N[i]? = some x := by rfl) (hk : okG C.io Γ2 Γ = true := by rfl) (hn : Γ2.contains i = false := by rfl) (hρ : ρs = own.map (·.2) := by rfl) (hv : (Γ.all fun i => !ρs.contains i) = true := by rfl) (hts : (ts.all fun i => ρs.contains i) = true := by rfl) (hs : ∀ x, foldedSetIterable iter X.env x = pure x := by intro _; rfl)
    (hl : X.env.scope.names.lookup x = some .local := by rfl) (hsw : swapsWith (.ListComp elt [⟨tg, iter, ifs, 0⟩] scope pos) (some (.Name x pos')) spos.line X.env = pure true := by rfl) : SS X C W Γ0 (.Assign [.Name x pos'] (.ListComp elt [⟨tg, iter, ifs, 0⟩] scope pos) spos) (i :: Γ2) Γb fr1 (mSetO i (mLc fi g tst f ρs)) := by
  subst hρ
  exact ⟨psImp (ps_setLc hc hN hx hl hsw hi.pi ok (fun s H Cc cl fp => (hg s H Cc cl fp).pg) (fun s H Cc cl fp => (ht s H Cc cl fp).pt) (fun s H Cc cl fp => (he s H Cc cl fp).pe) hs) fun Dn σ H p =>
    lc_ok (fun i hi z => by have := List.all_eq_true.mp hv i hi; rw [List.contains_iff_mem.mpr z] at this; cases this) (fun i hi => List.contains_iff_mem.mp (List.all_eq_true.mp hts i hi)) (take_tE hk hn p)⟩
end
end Ip
namespace Ip
open PySem L2 PySem.Spec PyProof.Rows

/-! ## raise c() -/
theorem pmk_bare {X : Cx} {Cc : Addr} {bmB : List Value} {B newId initId : String} {x : Str} {p pos : Pos} (F : ExcBaseFacts B newId initId bmB) (q : PySem.W.excIn X.K Cc bmB newId = true) (gC : X.mg x = some (.ref Cc)) (kC : PySem.W.keepIn X.K (.ref Cc) = true) (r : Raises X (.ref Cc)) (hg : Gl X x) (hdb : (x == ("__debug__" : Str)) = false) :
    PMk X (.Call (.Name x p) [] [] pos) (fun _ H Q => Q (.ref Cc) none H) := fun pins s σ H Q I h => by
  refine wpAny_Call_Name_kw (ld_glob I hg gC (PySem.W.callWith_K0 (first := []) I.kIn kC ?_) hdb)
  obtain ⟨_, _, _, _, _, _, _, _, _, _, _, _, _, _, _, _, _, hC, hN, hi, T⟩ := exc_obj I.kIn q
  exact wpAny_call_exc_subT F T hC hN hi (fun h' e hm => mk_of I hm r h (I.hok.gone hm.new)) (Nat.zero_le _)
/-- a class of errors with no field -/
structure Er (K : PySem.W.Frag) (mg : Str → Option Value) (ct : Str → Option Addr) (c : Str) : Prop where
  ex : ∃ (Cc : Addr) (B newId initId : String) (bmB : List Value), ct c = some Cc ∧ ExcBaseFacts B newId initId bmB ∧ PySem.W.excIn K Cc bmB newId = true ∧ mg c = some (.ref Cc) ∧ PySem.W.keepIn K (.ref Cc) = true ∧ PySem.W.subIn K (.ref Cc) (.type "BaseException") = some true ∧ PySem.W.typeIn K (.ref Cc) = some (.type "type")
def mRaise (c : Str) : Env → R Fl := fun ρ => .exn ⟨c, none⟩ ρ
section
variable {X : Cx} {C : Ac} {W : WX} {Γ Γ0 Γ1 Γ2 Γ3 Γ' Γb : List Nat} {fr fr1 fr2 fr3 : Bool} {e a b c : Expr} {es : List Expr} {f h k : Env → R D} {p pos pos' apos cpos p2 np : Pos} {body suite : List Stmt} {b₀ : Stmt} {fb : Env → R Fl}
theorem ss_raise {x : Str} (E : Er X.K X.mg C.ct x) (hc : X.calm = true) (tk : Takes X W) (hg : Gl X x := by rfl) (hk : okG C.io C.io Γ = true := by rfl) (hdb : (x == ("__debug__" : Str)) = false := by decide) : SS X C W Γ (.Raise (some (.Call (.Name x p) [] [] pos)) none pos') Γ' Γb fr (mRaise x) := by
  obtain ⟨Cc, B, newId, initId, bmB, e1, F, q, gC, kC, r1, r2⟩ := E.ex
  refine ⟨psImp (ps_raise hc tk (pmk_bare F q gC kC (raises_own r1 r2) hg hdb)) fun Dn σ H ⟨ρ, S, w⟩ => ?_⟩
  obtain ⟨h1, h2, h3⟩ := okG_of hk
  exact w (.ref Cc) none σ H ⟨Cc, e1, rfl, rfl⟩ (S.weak h1 h2 h3)

/-! ## in a suite: the error e stands in slot i; the values that come of isinstance -/
structure SX (X : Cx) (i : Nat) (a : Addr) (e : Expr) (v : V) : Prop where
  pe : PE X e fun σ H Q => σ[i]? = some (some (.ref a)) ∧ ∀ H', Same H H' → Q v H'
theorem sx_bl {i : Nat} {a : Addr} {k : Bool} {j : Nat} : SX X i a (.Constant (.bool k) j pos) (.bl k) := ⟨peImp pe_bl fun σ H Q q => q.2 H (.refl _)⟩
theorem sx_not {i : Nat} {a : Addr} {e : Expr} {k : Bool} (h : SX X i a e (.bl k)) : SX X i a (.UnaryOp .Not e pos) (.bl (!k)) := ⟨peImp (pe_not h.pe) fun σ H Q q => ⟨q.1, fun H' s => ⟨k, rfl, q.2 H' s⟩⟩⟩
theorem sx_one {i : Nat} {a : Addr} {e : Expr} {v : V} {op : BoolOp} (h : SX X i a e v) : SX X i a (.BoolOp op [e] pos) v := ⟨pe_one h.pe⟩
theorem sx_and {i : Nat} {a : Addr} {e e2 : Expr} {rest : List Expr} {k k2 : Bool} (h : SX X i a e (.bl k)) (h2 : SX X i a (.BoolOp .And (e2 :: rest) pos) (.bl k2)) : SX X i a (.BoolOp .And (e :: e2 :: rest) pos) (.bl (k && k2)) := ⟨peImp (pe_and h.pe h2.pe) fun σ H Q q => ⟨q.1, fun H' s => ⟨k, rfl, by
  cases k with
  | true => exact ⟨q.1, fun H'' s' => q.2 H'' (s.trans s')⟩
  | false => exact q.2 H' s⟩⟩⟩
/-- isinstance(e, K): kitOne answers -/
theorem sx_isi {Y : Cx} {i : Nat} {a D Kc : Addr} {oe : Obj} {pn : List (Addr × Obj)} {n x : Str} {k : Bool} (E : ExcC Y.K D) (hz : Zc (.ref D) none oe) (hf : ∃ vs, oe.data = .fields vs) (hk : PySem.W.kitOne Y.K (.ref D) (.ref Kc) = some k) (hN : Y.N[i]? = some n) (hv : Vis Y.env.scope n) (hmi : Y.mg "isinstance" = none) (hm : Y.mg x = some (.ref Kc))
    (hgi : Gl Y "isinstance" := by rfl) (hg : Gl Y x := by rfl) (hd : (n == ("__debug__" : Str)) = false := by decide) (hcd : (n == ("__classdict__" : Str)) = false := by decide) (hdb : (x == ("__debug__" : Str)) = false := by decide)
    (hs : starEach [.Name n np, .Name x p2] Y.env = (false, eval (.Name n np) Y.env) :: starEach [.Name x p2] Y.env := by rfl) (hs2 : starEach [.Name x p2] Y.env = (false, eval (.Name x p2) Y.env) :: starEach [] Y.env := by rfl) (hpl : (backTo pos (starEach [.Name x p2] Y.env)).any (·.1) = false := by rfl) :
    SX (Y.suite a ((a, oe) :: pn)) i a (.Call (.Name "isinstance" p) [.Name n np, .Name x p2] [] pos) (.bl k) :=
  ⟨peImp (pe_callB (X := Y.suite a ((a, oe) :: pn)) (call_isE E hz hf) hgi hmi (by decide +kernel) (pa_cons (pe_var (i := i) hN hv hd hcd) (pa_cons (pe_glob (v := .ref Kc) hg hm rfl hdb) pa_nil hs2) hs) (by decide) (by decide) hs hpl) fun σ H Q q =>
    ⟨_, q.1, .ref Kc, .ref Kc, k, rfl, fun u r => r, hk, q.2 H (.refl _)⟩⟩
/-! ## try: body / except c as n: x = value -/
theorem ST.unslot {K : PySem.W.Frag} {hid : List Addr} {ρ : Env} {σ : L2.St} {H : Hp} (S : ST K C hid Γ ρ σ H) {i : Nat} (hi : i ∉ Γ) (v : Option V) : ST K C hid Γ (ρ.set i none) (σ.set i v) H := by
  have ii : i ∉ C.io := fun z => hi (S.io i z)
  refine ⟨by rw [List.length_set, List.length_set]; exact S.len, S.sub, S.trk, S.tmp, by rw [map_sa_set hi]; exact S.nd, fun j hj => by rw [sa_set (nem hi hj)]; exact S.dis j hj, fun j hj => by rw [sa_set (nem hi hj)]; exact S.own j hj, S.frm, S.frh, S.gro, S.io, by rw [map_sa_set ii]; exact S.pin, fun j e hj ej => ?_, fun j hj => ?_⟩
  · rw [Ms_set hi]
    by_cases q : j = i
    · subst q
      rw [List.getElem?_set] at ej
      split at ej
      · split at ej <;> cases ej
      · contradiction
    · rw [List.getElem?_set_ne (Ne.symm q)] at ej ⊢
      exact S.sl j e hj ej
  · have q : j ≠ i := nem hi hj
    rw [Ms_set hi, sa_set q, List.getElem?_set_ne (Ne.symm q), List.getElem?_set_ne (Ne.symm q)]
    exact S.ow j hj
/-- what an activation begun in the midst tells of the whole -/
theorem ST.inner {K : PySem.W.Frag} {ct : Str → Option Addr} {H0 H H' : Hp} {hid ioA : List Addr} {io : List Nat} {ρ ρ' : Env} {σ σ' : L2.St} (S : ST K ⟨ct, H0, hid, io, ioA⟩ hid io ρ σ H) (S' : ST K ⟨ct, H, hid, io, ioA⟩ hid io ρ' σ' H') :
    ST K ⟨ct, H0, hid, io, ioA⟩ hid io ρ' σ' H' ∧ Stp (Ms σ hid io) (Ms σ' hid io) hid H H' := by
  have e1 : Ms σ hid io = hid ++ ioA := by unfold Ms; rw [show io.map (sa σ) = ioA from S.pin]
  have e2 : Ms σ' hid io = hid ++ ioA := by unfold Ms; rw [show io.map (sa σ') = ioA from S'.pin]
  refine ⟨⟨S'.len, fun _ z => z, S'.trk, fun a ha => .inl ha, S'.nd, S'.dis, fun i hi => .inl ?_, S.frm.trans S'.frm, fun a ha => (S'.frh a ha).trans (S.frh a ha), fun a ha => S'.gro a (S.gro a ha), fun _ z => z, S'.pin, S'.sl, S'.ow⟩, ⟨by rw [e1, e2]; exact S'.frm, fun a ha => S'.frh a ha⟩⟩
  rw [← show io.map (sa σ') = ioA from S'.pin]
  exact List.mem_map_of_mem hi
theorem ST.outer {K : PySem.W.Frag} {ct : Str → Option Addr} {H0 H : Hp} {hid ioA : List Addr} {io : List Nat} {ρ : Env} {σ : L2.St} (S : ST K ⟨ct, H0, hid, io, ioA⟩ hid io ρ σ H) : ST K ⟨ct, H, hid, io, ioA⟩ hid io ρ σ H :=
  ⟨S.len, fun _ z => z, S.trk, fun a ha => .inl ha, S.nd, S.dis, fun i hi => .inl (by rw [← show io.map (sa σ) = ioA from S.pin]; exact List.mem_map_of_mem hi), .refl _, fun _ _ => rfl, fun _ z => z, fun _ z => z, S.pin, S.sl, S.ow⟩
def mTry (cn : Str) (i j : Nat) (d : D) (f : Env → R Fl) : Env → R Fl := fun ρ => match f ρ with
  | .ok .nx ρ' => .ok .nx ρ'
  | .exn e ρ' => if e.cls = cn ∧ e.fld.isNone = true ∧ j < ρ'.length ∧ i < ρ'.length then .ok .nx ((ρ'.set j (some d)).set i none) else .bad
  | _ => .bad
theorem ss_tryAs {ct : Str → Option Addr} {H0 : Hp} {hid ioA : List Addr} {io : List Nat} {n x cn : Str} {Cc Hc : Addr} (i j : Nat) {d : D} {v : V} (hN : X.N.Nodup) (hs : X.stack = X.env :: X.outer) (hf : X.env.frame = some X.env.locals) (hcc : ct cn = some Cc) (hc : Names X x (.ref Hc)) (hm : PySem.W.exmOne X.K (.ref Cc) (.ref Hc) = some true) (hr : ∀ A, RV ⟨X.K, ct⟩ A d v) (tk : Takes X W)
    (hb : ∀ (H1 : Hp) (W1 : WX) (pn : List (Addr × Obj)) (xe : Value → Shared → Prop), Takes (X.tr pn xe) W1 → PassesOwn (model X.prog X.w) X.A X.env xe → SSs (X.tr pn xe) ⟨ct, H1, hid, io, ioA⟩ W1 io body io [] false fb)
    (hsu : ∀ (a : Addr) (oe : Obj) (pn : List (Addr × Obj)), Zc (.ref Cc) none oe → (∃ vs, oe.data = .fields vs) → PSs (X.suite a ((a, oe) :: pn)) (b₀ :: suite) fun Dn σ H => σ[i]? = some (some (.ref a)) ∧ ∀ H', Same H H' → Dn.nx (σ.set j (some v)) H')
    (hi : X.N[i]? = some n := by rfl) (hij : (i == j || io.contains i || io.contains j) = false := by rfl) (hln : X.env.kindOf n = some .local := by rfl) :
    SS X ⟨ct, H0, hid, io, ioA⟩ W io (.Try body [.ExceptHandler (some (.Name x np)) (some n) (b₀ :: suite) pos'] [] [] pos) io Γb fr (mTry cn i j d fb) := by
  have hi' : i ∉ io := fun z => by rw [List.contains_iff_mem.mpr z] at hij; simp at hij
  have hj' : j ∉ io := fun z => by rw [List.contains_iff_mem.mpr z] at hij; simp at hij
  have hne : i ≠ j := fun z => by subst z; simp at hij
  constructor
  constructor
  intro pins s σ H Dn I ⟨ρ, S, p⟩
  refine (ps_try_as (tb := fun W1 => tS X.K ⟨ct, H, hid, io, ioA⟩ W1 io io [] false fb) (Wout := W) (ts := fun a cls od => fun Dn σ H => cls = .ref Cc ∧ od = none ∧ σ[i]? = some (some (.ref a)) ∧ ∀ H', Same H H' → Dn.nx (σ.set j (some v)) H') hs hf hN hi hln hc tk (fun W1 pn xe t1 t2 => (hb H W1 pn xe t1 t2).ps) fun a oe cls od pn hz hd => ⟨fun pins s σ H Dn I q => ?_⟩).run pins s σ H Dn I ?_
  · obtain ⟨rfl, rfl, q1, q2⟩ := q
    exact (hsu a oe pn hz hd).run pins s σ H Dn I ⟨q1, q2⟩
  · refine ⟨ρ, S.outer, ?_⟩
    unfold mTry at p
    cases q : fb ρ with
    | bad => rw [q] at p; exact (show False from p).elim
    | ok fl ρ' =>
      rw [q] at p
      cases fl with
      | nx => exact fun σ' H' S' k' => p σ' H' (S.inner S').1 k'
      | _ => exact (show False from p).elim
    | exn e ρ' =>
      rw [q] at p
      by_cases hc2 : e.cls = cn ∧ e.fld.isNone = true ∧ j < ρ'.length ∧ i < ρ'.length
      · simp only [if_pos hc2] at p
        obtain ⟨z1, z2, z3, z4⟩ := hc2
        intro cls od σ' H' xr S'
        obtain ⟨C1, y1, y2, y3⟩ := xr
        rw [z1] at y1
        have : Cc = C1 := Option.some.inj (hcc.symm.trans y1)
        subst this
        have y4 : od = none := by
          cases ef : e.fld with
          | none => rw [ef] at y3; exact y3
          | some d => rw [ef] at z2; cases z2
        subst y2 y4
        refine ⟨true, hm, fun _ a ha => ⟨rfl, rfl, List.getElem?_set_self ?_, fun H2 sm => ?_⟩, fun z => nomatch z⟩
        · rw [← S'.len]; exact z4
        · obtain ⟨S1, k1⟩ := S.inner S'
          have S2 := S1.same sm
          have S3 := S2.put (v := v) hj' (hr _) z3
          have S4 := S3.unslot hi' none
          have e2 : (((σ'.set i (some (V.ref a))).set j (some v)).set i none) = ((σ'.set j (some v)).set i none) := by
            rw [List.set_comm (l := σ') (some (V.ref a)) (some v) hne, List.set_set]
          show Dn.nx (((σ'.set i (some (V.ref a))).set j (some v)).set i none) H2
          rw [e2]
          refine p _ H2 S4 ?_
          rw [Ms_set hi', Ms_set hj']
          refine ⟨k1.le.trans (.of_same (mask_keep fun b o _ e => sm b o e)), fun a ha => ?_⟩
          have e := k1.fx a ha
          rw [← e]
          cases q : H' a with
          | none => exact absurd q (S1.trk a ha).1
          | some o => exact sm a o q
      · simp only [if_neg hc2] at p; exact (show False from p).elim
end
end Ip
namespace Ip
open PySem L2 PySem.Spec PyProof.Rows

/-! ## enumerate(a text) -/
def ItES (x : Str) : It := ⟨fun i _ => i < x.cps.size, fun i H v H' => ∃ T c, v = .ref T ∧ H T = none ∧ H' = upd H T (.tup [.int (i : Nat), .str ⟨#[c]⟩]) ∧ x.cps[i]? = some c, fun i _ => x.cps.size ≤ i⟩
theorem turn_enumS {P : Program} {w : World} {K : PySem.W.Frag} {elts : List Expr} {kk : Nat} {tpos : Pos} (x : Str) (t : Tok) (e it : Addr) (hne : e ≠ it) :
    Turn P w K (.Tuple elts kk tpos) (ItES x) [e, it] e (fun i h => i ≤ x.cps.size ∧ (∃ old, IsEnum h e it ((0 : Int) + ((i : Nat) : Int)) old) ∧ h.IsStrIter it (strIterType x) x t i) where
  mem := by simp
  obj := fun i h ⟨_, ⟨old, he⟩, ⟨o, ho, hc, hd⟩⟩ b hb => by
    rcases (show b = e ∨ b = it by simpa using hb) with z | z
    · rw [z]; exact ⟨_, he, fun v q => nomatch q⟩
    · rw [z]; exact ⟨o, ho, fun v q => by rw [hd] at q; cases q⟩
  keep := fun i h h' ⟨hl, ⟨old, he⟩, ⟨o, ho, r⟩⟩ k => ⟨hl, ⟨old, k e (by simp) _ he⟩, ⟨o, k it (by simp) o ho, r⟩⟩
  item := by
    intro X hP hw hK hc i pins s σ H E I hf ⟨hl, st1, st2⟩ hg
    subst hP hw hK
    have G := GoesN.enumFrom (prog := X.prog) (w := X.w) (A := X.A) (elts := elts) (x1 := kk) (pos := tpos) 0 (Draws.text (prog := X.prog) (w := X.w) (A := X.A.in1) (I.ok.hd hc) it x t) e hne (by simp [hne]) (by simp)
    refine thn (G.goes i s _ E hg ⟨st1, st2⟩ fun v h' tk ⟨T, t2, y, ev, hT, ⟨c, u, hcx, ey⟩, htp⟩ st' kk _ => ?_) fun r s1 q => q
    subst ev; subst ey
    have I1 := I.turnedNew (t' := tk) (ob := .tup [.int (i : Nat), .str ⟨#[c]⟩]) (ch := [e, it]) kk hf hT ⟨by show 2 ≤ sizeLine; decide, [.int (0 + (i : Int)) t2, .str ⟨#[c]⟩ u], .cons ⟨t2, by rw [Int.zero_add]⟩ (.cons ⟨u, rfl⟩ .nil), htp⟩
    refine ⟨.ref T, _, I1, rfl, ⟨T, c, rfl, I.hok.fresh hT, rfl, hcx⟩, ⟨hg, st'.1, st'.2⟩, fun b hb => ?_⟩
    have hb' : b < s.heap.objs.size := by
      rcases (show b = e ∨ b = it by simpa using hb) with z | z
      · obtain ⟨old, he⟩ := st1
        rw [z]; exact Heap.lt_size he
      · obtain ⟨o, ho, _⟩ := st2
        rw [z]; exact Heap.lt_size ho
    rw [upd_ne (show b ≠ T from Nat.ne_of_lt (Nat.lt_of_lt_of_le hb' hT))]
    exact (hf b hb).1
  done := by
    intro X hP hw hK hc i pins s σ H E I hf ⟨hl, st1, st2⟩ hg
    subst hP hw hK
    have hi : i = x.cps.size := Nat.le_antisymm hl hg
    subst hi
    have G := GoesN.enumFrom (prog := X.prog) (w := X.w) (A := X.A) (elts := elts) (x1 := kk) (pos := tpos) 0 (Draws.text (prog := X.prog) (w := X.w) (A := X.A.in1) (I.ok.hd hc) it x t) e hne (by simp [hne]) (by simp)
    exact G.stops s _ E ⟨st1, st2⟩ fun h' tk k _ => I.turnedL (t' := tk) k hf
  self := fun A i s Q E ⟨_, ⟨_, he⟩, _⟩ h => wpAny_pyIter_enum he h
theorem pi_enumS {X : Cx} {e : Expr} {te : TE} {p pos tpos : Pos} {elts : List Expr} {kk : Nat} (hg : Gl X "enumerate") (hm : X.mg "enumerate" = none) (he : PE X e te) (hs : starEach [e] X.env = (false, eval e X.env) :: starEach [] X.env) :
    PI X (.Tuple elts kk tpos) (.Call (.Name "enumerate" p) [e] [] pos) fun σ H R => te σ H fun v H1 => ∃ x, v = .str x ∧ R (ItES x) H1 := ⟨fun pins s σ H R I h => by
  refine Call_ (ld_blt I hg hm boot_enumerate (PyProof.Rows.callWith_type1 (args_cons (thn (he.run pins s σ H _ I h) fun u s1 ⟨v, H1, I1, r1, x, ev, q⟩ => args_nil ?_) hs) hs rfl))
  subst ev
  obtain ⟨t, rfl⟩ := r1
  refine call_enumerate_str fun h' h1 h2 hsz hk => wpAny_pyIter_enum h1 ?_
  have I2 : Inv X pins σ H1 { s1 with heap := h' } := I1.kept (t' := s1.toks) hk
  refine ⟨s1.heap.objs.size + 1, [s1.heap.objs.size + 1, s1.heap.objs.size], _, _, H1, rfl, I2, turn_enumS x t (s1.heap.objs.size + 1) s1.heap.objs.size (Nat.succ_ne_self _), ⟨Nat.zero_le _, ⟨.none, h1⟩, h2⟩, fun b hb => ?_, q⟩
  have hle : s1.heap.objs.size ≤ b := by
    rcases (show b = s1.heap.objs.size + 1 ∨ b = s1.heap.objs.size by simpa using hb) with z | z
    · rw [z]; exact Nat.le_add_right _ _
    · rw [z]; exact Nat.le_refl _
  exact I1.fpOk hle (I1.hok.fresh hle)⟩
def enumL : Nat → List D → List D
  | _, [] => []
  | n, d :: ds => .tup [.int (n : Nat), d] :: enumL (n + 1) ds
theorem enumL_get : ∀ (ds : List D) (n i : Nat), (enumL n ds)[i]? = ds[i]?.map fun d => .tup [.int ((n + i : Nat) : Int), d]
  | [], _, _ => rfl
  | d :: ds, n, 0 => rfl
  | d :: ds, n, i + 1 => by
    rw [enumL, List.getElem?_cons_succ, List.getElem?_cons_succ, enumL_get ds (n + 1) i]
    congr 1
    funext d
    rw [show n + 1 + i = n + (i + 1) by omega]
theorem enumL_len : ∀ (ds : List D) (n : Nat), (enumL n ds).length = ds.length
  | [], _ => rfl
  | d :: ds, n => by rw [enumL, List.length_cons, List.length_cons, enumL_len]
theorem rv_pair {g : Gx} {H : Hp} {M : List Addr} {T : Addr} {x y : V} {dx dy : D} (hT : H T = none) (tr : ∀ a ∈ M, H a ≠ none) (r1 : RV g (mask H M) dx x) (r2 : RV g (mask H M) dy y) : RV g (mask (upd H T (.tup [x, y])) M) (.tup [dx, dy]) (.ref T) := by
  have hn : T ∉ M := fun z => tr T z hT
  have le : HLe (mask H M) (mask (upd H T (.tup [x, y])) M) := .of_same (mask_keep fun b o _ e => same_upd hT b o e)
  exact .tup (by rw [mask_out hn, upd_same]) (.cons (r1.mono le) (.cons (r2.mono le) .nil))
theorem itok_enumS {g : Gx} {H : Hp} {M : List Addr} {x : Str} : ItOk g (ItES x) (enumL 0 (x.cps.toList.map chD)) H M := by
  refine ⟨fun _ => True, (ItES x).yld, ⟨fun i H hi _ => ?_, fun H _ => ?_, fun i H x H' hi _ y => y⟩, fun _ _ _ => trivial, fun i v H1 H1' d hd _ y => ?_⟩
  · rw [enumL_len, List.length_map, Array.length_toList] at hi; exact hi
  · show x.cps.size ≤ _
    rw [enumL_len, List.length_map, Array.length_toList]; exact Nat.le_refl _
  · obtain ⟨T, c, rfl, hT, rfl, hc⟩ := y
    rw [enumL_get, List.getElem?_map, Array.getElem?_toList, hc] at hd
    cases hd
    refine ⟨same_upd hT, fun M1 tr _ => ?_⟩
    rw [Nat.zero_add]
    exact rv_pair hT (fun a ha => (tr a ha).1) (.int _) (.str _)
section
variable {X : Cx} {C : Ac} {W : WX} {Γ Γ0 Γ1 Γ2 Γ3 Γ' Γb : List Nat} {fr fr1 fr2 fr3 : Bool} {e a b c tg : Expr} {es elts : List Expr} {f h k : Env → R D} {p pos pos' apos cpos p2 np tpos : Pos} {kk : Nat}
def mEnumS (f : Env → R D) : Env → R (List D) := fun ρ => (f ρ).bind fun d ρ' => match d with
  | .str x => .ok (enumL 0 (x.cps.toList.map chD)) ρ'
  | _ => .bad
theorem si_enumS (ha : SE X C W Γ e Γ' fr f) (hm : X.mg "enumerate" = none) (hg : Gl X "enumerate" := by rfl) (hs : starEach [e] X.env = (false, eval e X.env) :: starEach [] X.env := by rfl) : SI X C W Γ (.Tuple elts kk tpos) (.Call (.Name "enumerate" p) [e] [] pos) Γ' (mEnumS f) :=
  ⟨piImp (pi_enumS hg hm ha.pe hs) fun σ H Q ⟨hid, ρ, S, p⟩ => by
  refine ⟨hid, ρ, S, ?_⟩
  unfold mEnumS at p
  cases q : f ρ with
  | bad => rw [q] at p; exact p
  | exn e ρ' => rw [q] at p; exact p
  | ok d ρ' =>
    rw [q] at p
    dsimp only [R.bind] at p
    intro v H1 tm S1 k1 va t1
    cases d with
    | str x =>
      have := shal_str va.shal0
      subst this
      exact ⟨x, rfl, p _ H1 (S1.forget (fun a ha => List.mem_append_right _ ha) S.sub) ⟨k1.le.trans (.of_same (mask_sub (Ms_subH fun a ha => List.mem_append_right _ ha))), k1.fx⟩ itok_enumS⟩
    | _ => exact (show False from p).elim⟩
/-! ## what is never reached -/
theorem ss_bad {st : Stmt} : SS X C W Γ st Γ' Γb fr (fun _ => .bad) := ⟨psImp ps_never fun Dn σ H ⟨ρ, S, p⟩ => p⟩
theorem sss_bad {st : List Stmt} : SSs X C W Γ st Γ' Γb fr (fun _ => .bad) := ⟨pssImp pss_never fun Dn σ H ⟨ρ, S, p⟩ => p⟩
theorem se_bad : SE X C W Γ e Γ' fr (fun _ => .bad) := ⟨⟨fun pins s σ H Q I ⟨hid, ρ, S, p⟩ => (show False from p).elim⟩⟩
theorem sp_bad : SP X C W Γ e Γ' (fun _ => .bad) := ⟨⟨fun pins s σ H Q I ⟨hid, ρ, S, p⟩ => (show False from p).elim⟩⟩
/-! ## while: the number of turns is bounded by the semantics -/
def whileL (c : Env → R Bool) (body : Env → R Fl) : Nat → Env → R Fl
  | 0, _ => .bad
  | n + 1, ρ => match c ρ with
    | .ok false ρ' => .ok .nx ρ'
    | .ok true ρ' => match body ρ' with
      | .ok .nx ρ2 => whileL c body n ρ2
      | .ok .ct ρ2 => whileL c body n ρ2
      | .ok .bk ρ2 => .ok .nx ρ2
      | .ok (.rt z) ρ2 => .ok (.rt z) ρ2
      | .exn e ρ2 => .exn e ρ2
      | .bad => .bad
    | .exn e ρ' => .exn e ρ'
    | .bad => .bad
def mWhile (n : Env → Nat) (c : Env → R Bool) (body : Env → R Fl) : Env → R Fl := fun ρ => whileL c body (n ρ) ρ
theorem ss_while {fc : Env → R Bool} {fb : Env → R Fl} {body : List Stmt} (n : Env → Nat) (hp : PassesOwn (model X.prog X.w) X.A X.env X.xe) (hc : SP X C W Γ c Γ fc) (hb : SSs X C W Γ body Γ Γ fr fb) : SS X C W Γ (.While c body [] pos) Γ Γb fr (mWhile n fc fb) := ⟨psImp (ps_while hp hc.pt hb.ps) fun Dn σ H ⟨ρ, S, p⟩ => by
  refine ⟨fun m σ1 H1 => ∃ ρ1, ST X.K C C.hid Γ ρ1 σ1 H1 ∧ Stp (Ms σ C.hid Γ) (Ms σ1 C.hid Γ) C.hid H H1 ∧ PostS X.K C W Γ Γ Γb fr Dn σ H (whileL fc fb m ρ1), ⟨_, ρ, S, Stp.refl _ _ _, p⟩, ?_⟩
  rintro m σ1 H1 ⟨ρ1, S1, k1, p1⟩
  cases m with
  | zero => exact (show False from p1).elim
  | succ m =>
    refine ⟨C.hid, ρ1, S1, ?_⟩
    unfold whileL at p1
    cases q : fc ρ1 with
    | bad => simp only [q] at p1; exact p1
    | exn e ρ' => simp only [q] at p1; exact fun cls od H' x S' => p1 cls od σ1 H' x S'
    | ok b ρ2 =>
      simp only [q] at p1
      intro H2 S2 k2
      cases b with
      | false => rw [if_neg Bool.false_ne_true]; exact p1 σ1 H2 S2 (k1.trans k2 fun _ z => z)
      | true =>
        rw [if_pos rfl]
        refine ⟨fun σ3 H3 => ∃ ρ3, ST X.K C C.hid Γ ρ3 σ3 H3 ∧ Stp (Ms σ C.hid Γ) (Ms σ3 C.hid Γ) C.hid H H3 ∧ PostS X.K C W Γ Γ Γb fr Dn σ H (whileL fc fb m ρ3), fun σ' H' z => ⟨m, Nat.lt_succ_self m, z⟩, ρ2, S2, ?_⟩
        have k3 := k1.trans k2 fun _ z => z
        cases q2 : fb ρ2 with
        | bad => simp only [q2] at p1; exact p1
        | exn e ρ' => simp only [q2] at p1; exact p1
        | ok fl ρ3 =>
          simp only [q2] at p1
          cases fl with
          | nx => exact fun σ4 H4 S4 k4 => ⟨ρ3, S4, k3.trans k4 fun _ z => z, p1⟩
          | ct => exact fun σ4 H4 S4 k4 => ⟨ρ3, S4, k3.trans k4 fun _ z => z, p1⟩
          | bk => exact fun σ4 H4 S4 k4 => p1 σ4 H4 S4 (k3.trans k4 fun _ z => z)
          | rt z => exact p1⟩
end
end Ip
namespace Ip
open PySem L2 PySem.Spec PyProof.Rows

/-! ## dicts whose keys are ints and texts -/
def keyB : D → D → Bool
  | .int i, .int j => i == j
  | .str x, .str y => x == y
  | _, _ => false
def dFind : List D → List D → D → Option D
  | k' :: ks, d :: ds, k => if keyB k' k then some d else dFind ks ds k
  | _, _, _ => none
def dPut (ks ds : List D) (k v : D) : List D × List D := if ks.any (keyB · k) then (ks, List.zipWith (fun k' d => if keyB k' k then v else d) ks ds) else (ks ++ [k], ds ++ [v])
theorem keyB_kD (k k' : Key) : keyB (kD k) (kD k') = decide (k = k') := by
  cases k with
  | inl i => cases k' with
    | inl j => by_cases h : i = j <;> simp [keyB, kD, h]
    | inr y => simp [keyB, kD]
  | inr x => cases k' with
    | inl j => simp [keyB, kD]
    | inr y => by_cases h : x = y <;> simp [keyB, kD, h]
def toKey : D → Option Key
  | .int i => some (.inl i)
  | .str x => some (.inr x)
  | _ => none
theorem toKey_kD {d : D} {k : Key} (h : toKey d = some k) : d = kD k := by
  cases d <;> first | (cases h; rfl) | cases h
theorem kV_of {g : Gx} {H Hm : Hp} {k : Key} {v : V} (s : Shal g H Hm (kD k) v) : v = kV k := by
  cases k with
  | inl i => cases s; rfl
  | inr x => cases s; rfl
section
variable {g : Gx} {H : Hp}
theorem dFind_none : ∀ (ks : List Key) (vs : List V) (ds : List D) (k : Key), RVs g H ds vs → dFind (ks.map kD) ds (kD k) = none → ks.length = vs.length → valV (ks.zip vs) k = none
  | [], _, _, _, _, _, _ => rfl
  | k' :: ks, [], _, _, _, _, h => by simp at h
  | k' :: ks, v :: vs, _, k, .cons r t, e, h => by
    rw [List.map_cons, dFind, keyB_kD] at e
    by_cases z : k' = k
    · rw [if_pos (decide_eq_true z)] at e; cases e
    · rw [if_neg (by simpa using z)] at e
      rw [List.zip_cons_cons, valV_neg z]
      exact dFind_none ks vs _ k t e (by simpa using h)
theorem dFind_some : ∀ (ks : List Key) (vs : List V) (ds : List D) (k : Key) (d : D), RVs g H ds vs → dFind (ks.map kD) ds (kD k) = some d → ks.length = vs.length → ∃ v, valV (ks.zip vs) k = some v ∧ RV g H d v
  | [], _, _, _, _, _, e, _ => by cases e
  | k' :: ks, [], _, _, _, _, _, h => by simp at h
  | k' :: ks, v :: vs, _, k, d, .cons r t, e, h => by
    rw [List.map_cons, dFind, keyB_kD] at e
    by_cases z : k' = k
    · rw [if_pos (decide_eq_true z)] at e
      cases e
      exact ⟨v, by rw [List.zip_cons_cons, valV_pos z], r⟩
    · rw [if_neg (by simpa using z)] at e
      rw [List.zip_cons_cons, valV_neg z]
      exact dFind_some ks vs _ k d t e (by simpa using h)
theorem putK_zip (k : Key) (v : V) (d : D) (rd : RV g H d v) : ∀ (ks : List Key) (vs : List V) (ds : List D), RVs g H ds vs → ks.length = vs.length → ∃ (ks' : List Key) (vs' : List V), putK (ks.zip vs) k v = ks'.zip vs' ∧ ks'.length = vs'.length ∧ (dPut (ks.map kD) ds (kD k) d).1 = ks'.map kD ∧ RVs g H (dPut (ks.map kD) ds (kD k) d).2 vs' := by
  have hany : ∀ (ks : List Key) (vs : List V), ks.length = vs.length → ((ks.zip vs).any fun kv => decide (kv.1 = k)) = (ks.map kD).any (keyB · (kD k)) := by
    intro ks
    induction ks with
    | nil => intro vs _; rfl
    | cons k' ks ih =>
      intro vs h
      cases vs with
      | nil => simp at h
      | cons u vs => rw [List.zip_cons_cons, List.any_cons, List.map_cons, List.any_cons, keyB_kD, ih vs (by simpa using h)]
  have hmap : ∀ (ks : List Key) (vs : List V) (ds : List D), RVs g H ds vs → ks.length = vs.length → ∃ vs', (ks.zip vs).map (fun kv => if kv.1 = k then (kv.1, v) else kv) = ks.zip vs' ∧ ks.length = vs'.length ∧ RVs g H (List.zipWith (fun k' e => if keyB k' (kD k) then d else e) (ks.map kD) ds) vs' := by
    intro ks
    induction ks with
    | nil => intro vs ds r h; exact ⟨[], rfl, rfl, .nil⟩
    | cons k' ks ih =>
      intro vs ds r h
      cases r with
      | nil => simp at h
      | @cons e u ds vs r t =>
        obtain ⟨vs', h1, h2, h3⟩ := ih vs ds t (by simpa using h)
        by_cases z : k' = k
        · refine ⟨v :: vs', ?_, by simp [h2], ?_⟩
          · rw [List.zip_cons_cons, List.map_cons, h1, if_pos z]; rfl
          · rw [List.map_cons, List.zipWith_cons_cons, keyB_kD, if_pos (decide_eq_true z)]
            exact .cons rd h3
        · refine ⟨u :: vs', ?_, by simp [h2], ?_⟩
          · rw [List.zip_cons_cons, List.map_cons, h1, if_neg z]; rfl
          · rw [List.map_cons, List.zipWith_cons_cons, keyB_kD, if_neg (by simpa using z)]
            exact .cons r h3
  intro ks vs ds r h
  unfold putK dPut
  rw [hany ks vs h]
  by_cases q : (ks.map kD).any (keyB · (kD k)) = true
  · rw [if_pos q, if_pos q]
    obtain ⟨vs', h1, h2, h3⟩ := hmap ks vs ds r h
    exact ⟨ks, vs', h1, h2, rfl, h3⟩
  · rw [if_neg q, if_neg q]
    refine ⟨ks ++ [k], vs ++ [v], ?_, by simp [h], by simp, r.app (.cons rd .nil)⟩
    rw [List.zip_append h]; rfl
end
theorem dic_dK {g : Gx} {H Hm : Hp} {ks ds : List D} {v : V} (s : Shal g H Hm (.dic ks ds) v) (hk : ks.all isKD = true) : ∃ (a : Addr) (kk : List Key) (vs : List V), v = .ref a ∧ ks = kk.map kD ∧ Rd H a (.dK (kk.zip vs)) ∧ kk.length = vs.length ∧ RVs g Hm ds vs := by
  cases s with
  | @dK a kk vs ds h l r => exact ⟨a, kk, vs, rfl, rfl, h, l, r⟩
def dgetD : D → D → Option D
  | .dic ks ds, k => if ks.all isKD then (toKey k).bind fun _ => dFind ks ds k else none
  | _, _ => none
def rGetDK : R2 := fun x y H Q => ∃ a v, x = .ref a ∧ DGet H a y (some v) ∧ Q v H
theorem dget_ok {g : Gx} : OpS g rGetDK dgetD := fun H M x y dx dy d Q tr sx sy ho q => by
  cases dx with
  | dic ks ds =>
    simp only [dgetD] at ho
    split at ho
    · rename_i hk
      simp only [Option.bind_eq_some_iff] at ho
      obtain ⟨k, h1, h2⟩ := ho
      obtain ⟨a, kk, vs, rfl, rfl, hr, hl, rv⟩ := dic_dK sx hk
      have := toKey_kD h1
      subst this
      obtain ⟨v, hv, rd⟩ := dFind_some kk vs ds k d rv h2 hl
      exact ⟨a, v, rfl, .inl ⟨_, k, hr, kV_of sy, hv.symm⟩, q v H (.refl _) rd⟩
    · cases ho
  | _ => cases ho
def inDD : D → D → Option Bool
  | k, .dic ks ds => if ks.all isKD then (toKey k).map fun _ => (dFind ks ds k).isSome else none
  | _, _ => none
theorem inDD_ok {g : Gx} {H : Hp} {M : List Addr} {x y : V} {dx dy : D} {b : Bool} (sx : Shal g H (mask H M) dx x) (sy : Shal g H (mask H M) dy y) (h : inDD dx dy = some b) : ∃ a o, y = .ref a ∧ DGet H a x o ∧ b = o.isSome := by
  cases dy with
  | dic ks ds =>
    simp only [inDD] at h
    split at h
    · rename_i hk
      simp only [Option.map_eq_some_iff] at h
      obtain ⟨k, h1, rfl⟩ := h
      obtain ⟨a, kk, vs, rfl, rfl, hr, hl, rv⟩ := dic_dK sy hk
      have := toKey_kD h1
      subst this
      cases e : dFind (kk.map kD) ds (kD k) with
      | none => exact ⟨a, none, rfl, .inl ⟨_, k, hr, kV_of sx, (dFind_none kk vs ds k rv e hl).symm⟩, rfl⟩
      | some d =>
        obtain ⟨v, hv, _⟩ := dFind_some kk vs ds k d rv e hl
        exact ⟨a, some v, rfl, .inl ⟨_, k, hr, kV_of sx, hv.symm⟩, rfl⟩
    · cases h
  | _ => simp [inDD] at h
def inKD (a b : D) : Option D := (inDD a b).map .bl
def notInKD (a b : D) : Option D := (inDD a b).map fun k => .bl !k
def rInK : R2 := fun y x H Q => ∃ a o, x = .ref a ∧ DGet H a y o ∧ Q (.bl o.isSome) H
def rNotInK : R2 := fun y x H Q => ∃ a o, x = .ref a ∧ DGet H a y o ∧ Q (.bl (!o.isSome)) H
theorem op_inK {X : Cx} (hu : X.A.units + 1 < cLine) : OpR X (compareOp .In) rInK := fun pins s σ H y x iv u Q I ry rx ⟨a, o, ex, g, q⟩ => by
  subst ex; cases rx
  exact d_in hu I g ry fun s3 I3 => ⟨.bl o.isSome, H, I3, rfl, q⟩
theorem op_notInK {X : Cx} (hu : X.A.units + 1 < cLine) : OpR X (compareOp .NotIn) rNotInK := fun pins s σ H y x iv u Q I ry rx ⟨a, o, ex, g, q⟩ => by
  subst ex; cases rx
  exact d_notIn hu I g ry fun s3 I3 => ⟨.bl (!o.isSome), H, I3, rfl, q⟩
theorem inK_ok {g : Gx} : OpS g rInK inKD := fun H M x y dx dy d Q tr sx sy ho q => by
  unfold inKD at ho
  cases e : inDD dx dy with
  | none => rw [e] at ho; cases ho
  | some b =>
    rw [e] at ho; cases ho
    obtain ⟨a, o, h1, h2, rfl⟩ := inDD_ok sx sy e
    exact ⟨a, o, h1, h2, q _ H (.refl _) (.bl _)⟩
theorem notInK_ok {g : Gx} : OpS g rNotInK notInKD := fun H M x y dx dy d Q tr sx sy ho q => by
  unfold notInKD at ho
  cases e : inDD dx dy with
  | none => rw [e] at ho; cases ho
  | some b =>
    rw [e] at ho; cases ho
    obtain ⟨a, o, h1, h2, rfl⟩ := inDD_ok sx sy e
    exact ⟨a, o, h1, h2, q _ H (.refl _) (.bl _)⟩
/-- len(d), list(d) -/
def oLenD : List D → Option D
  | [.dic ks ds] => if ks.all isKD ∧ ks.length = ds.length then some (.int ds.length) else none
  | _ => none
def rLenD : List V → Hp → VK → Prop := fun xs H Q => ∃ a kvs, xs = [.ref a] ∧ Rd H a (.dK kvs) ∧ Q (.int kvs.length) H
theorem call_lenDK {X : Cx} : CallR X (.builtin "len") rLenD := fun pins s σ H xs us Q I r ⟨a, kvs, e, hk, q⟩ => by
  subst e
  obtain ⟨u, rfl, rx⟩ := vals1 r
  cases rx
  exact d_len I hk fun t s' I' => ⟨.int kvs.length, H, I', ⟨t, rfl⟩, q⟩
theorem cal_lenD {g : Gx} : CalS g rLenD oLenD := fun H M vs ds d Q tr ks ho q => by
  unfold oLenD at ho
  split at ho
  · split at ho
    · rename_i h
      cases ho
      obtain ⟨v, rfl, s⟩ := shals1 ks
      obtain ⟨a, kk, ws, rfl, rfl, hr, hl, rv⟩ := dic_dK s h.1
      refine ⟨a, _, rfl, hr, ?_⟩
      rw [List.length_zip, ← hl, Nat.min_self]
      have := rv.length
      rw [hl, ← this]
      exact q _ H (.refl _) (.int _)
    · cases ho
  · cases ho
theorem cal_listDK {g : Gx} : CalO g (fun xs H Q => ∃ (a : Addr) (kvs : List (Key × V)), xs = [.ref a] ∧ Rd H a (.dK kvs) ∧ ∀ p, H p = none → Q (.ref p) (upd H p (.lst (kvs.map fun kv => kV kv.1)))) oListDK := fun H M vs ds d Q tr ks ho q => by
  unfold oListDK at ho
  split at ho
  · split at ho
    · rename_i h
      cases ho
      obtain ⟨v, rfl, s⟩ := shals1 ks
      obtain ⟨a, kk, ws, rfl, rfl, hr, hl, rv⟩ := dic_dK s h
      exact ⟨a, _, rfl, hr, fun p hp => q p _ hp (.lst upd_same (rvs_keys kk ws hl))⟩
    · cases ho
  · cases ho
section
variable {X : Cx} {C : Ac} {W : WX} {Γ Γ0 Γ1 Γ2 Γ3 Γ' Γb : List Nat} {fr fr1 fr2 fr3 : Bool} {e a b c tg : Expr} {es elts : List Expr} {f h k : Env → R D} {p pos pos' apos cpos p2 np tpos : Pos} {f2 : Env → R (D × D)}
theorem se_dget (hu : X.A.units + 1 < cLine) (h2 : S2 X C W Γ a b Γ' f2) (hs : NoSl b := by exact fun _ _ => rfl) : SE X C W Γ (.Subscript a b pos) Γ' false (m2 dgetD f2) := by
  obtain ⟨ta, tb, pa, pb, hx⟩ := h2.ex
  exact ⟨peImp (pe_dget hu pa pb hs) fun _ _ _ p => m2_tE (r := rGetDK) dget_ok hx p⟩
/-- {} -/
theorem se_dnew : SE X C W Γ (.Dict [] [] pos) Γ true (mC (.dic [] [])) := ⟨peImp pe_dnewK fun σ H Q ⟨hid, ρ, S, p⟩ q hq => by
  have kh := S.holdStp (o := HO.dK []) hq
  refine p (.ref q) _ [q] (S.hold hq) kh (.fr (.dK (ks := []) (vs := []) upd_same rfl .nil)) fun b hb => ?_
  rw [List.mem_singleton.mp hb]; exact S.none_out hq⟩
def gDk (i : Nat) (h : Env → R D) (v : D) (ρ : Env) : Option Env := match ρ.getD i none, h ρ with
  | some (.dic _ _), .ok kd ρ1 => match ρ1.getD i none, toKey kd with
    | some (.dic ks ds), some _ => if ks.all isKD ∧ ks.length < sizeLine then some (ρ1.set i (some (.dic (dPut ks ds kd v).1 (dPut ks ds kd v).2))) else none
    | _, _ => none
  | _, _ => none
theorem sg_dk (i : Nat) {x : Str} (hu : X.A.units + 1 < cLine) (hb : SE X C W Γ b Γ fr h) (hN : X.N[i]? = some x := by rfl) (hv : Vis X.env.scope x := by first | exact Or.inl rfl | exact Or.inr (Or.inl rfl) | exact Or.inr (Or.inr rfl)) (hi : Γ.contains i = true := by rfl)
    (hd : (x == ("__debug__" : Str)) = false := by decide) (hcd : (x == ("__classdict__" : Str)) = false := by decide)
    (ha : ∀ v, assign (.Subscript (.Name x p) b pos) X.env v = (do
      let ov ← holding [v] (eval (.Name x p) X.env)
      let iv ← holding [v, ov] (eval b X.env)
      standAt pos
      holding [v, ov, iv] (setItem ov iv v)
      release [v, ov, iv] []) := by intro _; rfl) : SG X C Γ (.Subscript (.Name x p) b pos) [] (gDk i h) := ⟨pgImp (pg_sub (pe_var hN hv hd hcd) hb.pe (set_dict hu) ha) fun v σ H Q ⟨hid, ρ, d, ρ', S, r, e, q⟩ => by
  obtain ⟨d0, e1, e2, c0⟩ := own_at S hi
  refine ⟨_, e2, hid, ρ, S, ?_⟩
  unfold gDk at e
  split at e
  · rename_i kd ρ1 _ q2
    rw [q2]
    intro y H2 tm S2 k2 va t2
    split at e
    · rename_i ks ds kk e3 e4
      split at e
      · rename_i hk
        cases e
        have S3 := S2.forget (fun a ha => List.mem_append_right _ ha) S.sub
        have sub : ∀ b ∈ Ms σ hid Γ, b ∈ Ms σ (tm ++ hid) Γ := Ms_subH fun a ha => List.mem_append_right _ ha
        have k3 : Stp (Ms σ hid Γ) (Ms σ hid Γ) hid H H2 := ⟨k2.le.trans (.of_same (mask_sub sub)), k2.fx⟩
        obtain ⟨d1, f1, _, c2⟩ := own_at S3 hi
        rw [e3] at f1
        cases f1
        have ek := toKey_kD e4
        subst ek
        have ey := kV_of va.shal0
        subst ey
        have hsh := c2.shal
        cases c2 with
        | @dK kl us _ h hl r1 =>
          obtain ⟨kl', us', h1, h2, h3, h4⟩ := putK_zip kk v d (r.mono k3.le) kl us _ r1 hl
          refine ⟨_, _, rfl, .inl ⟨_, kk, h, rfl, ?_, rfl⟩, ?_⟩
          · rw [List.length_zip, ← hl, Nat.min_self]
            have := hk.2
            rwa [List.length_map] at this
          · rw [h1]
            exact q σ _ (S3.change (List.contains_iff_mem.mp hi) (by rw [h3]; exact .dK upd_same h2 h4)) (k3.trans (S3.changeStp (List.contains_iff_mem.mp hi)) fun _ z => z) (.refl _ _)
      · cases e
    · cases e
  · cases e⟩
/-- self.f = e, self an owned object -/
def putD (f : Str) (d : D) : List Str → List D → List Str × List D
  | n :: ns, e :: ds => if n = f then (n :: ns, d :: ds) else (n :: (putD f d ns ds).1, e :: (putD f d ns ds).2)
  | _, _ => ([f], [d])
theorem putF_zip {g : Gx} {Hm : Hp} {fn : Str} {d : D} {v : V} (r : RV g Hm d v) : ∀ (ns : List Str) (ds : List D) (vs : List V), RVs g Hm ds vs → ns.length = vs.length → ∃ vs' : List V, putF fn v (ns.zip vs) = (putD fn d ns ds).1.zip vs' ∧ (putD fn d ns ds).1.length = vs'.length ∧ RVs g Hm (putD fn d ns ds).2 vs'
  | [], _, [], .nil, _ => ⟨[v], rfl, rfl, .cons r .nil⟩
  | [], _, _ :: _, _, h => by simp at h
  | n :: ns, _, [], _, h => by simp at h
  | n :: ns, _, u :: vs, .cons (d := e) (ds := ds) q t, h => by
    rw [List.zip_cons_cons, putF, putD]
    by_cases z : n = fn
    · rw [if_pos z, if_pos z]
      exact ⟨v :: vs, rfl, by simpa using h, .cons r t⟩
    · rw [if_neg z, if_neg z]
      obtain ⟨vs', h1, h2, h3⟩ := putF_zip r ns ds vs t (by simpa using h)
      exact ⟨u :: vs', by rw [h1]; rfl, by simp [h2], .cons q h3⟩
def mFldS (i : Nat) (cn fn : Str) (h : Env → R D) : Env → R Fl := fun ρ => (h ρ).bind fun d ρ1 => match ρ1.getD i none with
  | some (.obj c ns ds) => if c = cn ∧ ns.length < 1000 then .ok .nx (ρ1.set i (some (.obj c (putD fn d ns ds).1 (putD fn d ns ds).2))) else .bad
  | _ => .bad
theorem ss_fld (i : Nat) {x cn fn : Str} (A : At X.K C.ct cn fn) (hv : SE X C W Γ e Γ' false h) (hN : X.N[i]? = some x := by rfl) (hvi : Vis X.env.scope x := by first | exact Or.inl rfl | exact Or.inr (Or.inl rfl) | exact Or.inr (Or.inr rfl)) (hi : Γ'.contains i = true := by rfl)
    (hd : (x == ("__debug__" : Str)) = false := by decide) (hcd : (x == ("__classdict__" : Str)) = false := by decide) (hs : swapsWith e (some (.Attribute (.Name x p) fn pos')) pos.line X.env = pure false := by rfl) : SS X C W Γ (.Assign [.Attribute (.Name x p) fn pos'] e pos) Γ' Γb fr (mFldS i cn fn h) :=
  ⟨psImp (ps_fld (pe_var hN hvi hd hcd) hv.pe hs) fun Dn σ H ⟨ρ, S, p⟩ => by
  obtain ⟨Cc, ec, cl, na⟩ := A.ex
  refine ⟨C.hid, ρ, S, ?_⟩
  unfold mFldS at p
  cases q : h ρ with
  | bad => rw [q] at p; exact p
  | exn e ρ' => rw [q] at p; exact fun cls od H' x S' => p cls od σ H' x S'
  | ok d ρ1 =>
    rw [q] at p
    dsimp only [R.bind] at p
    intro v H1 tm S1 k1 va t1
    cases va with
    | fz r _ =>
      obtain ⟨d1, f1, f2, c1⟩ := own_at S1 hi
      refine ⟨_, f2, ?_⟩
      rw [f1] at p
      cases d1 with
      | obj c ns ds =>
        dsimp only at p
        by_cases hc : c = cn ∧ ns.length < 1000
        · rw [if_pos hc] at p
          obtain ⟨rfl, hl⟩ := hc
          cases c1 with
          | @obj C1 dx _ _ us _ ho hct hln rs =>
            have : Cc = C1 := Option.some.inj (ec.symm.trans hct)
            subst this
            obtain ⟨vs', h1, h2, h3⟩ := putF_zip (fn := fn) r ns ds us rs hln
            refine ⟨_, Cc, dx, _, rfl, ho, cl, na, by rw [List.length_zip, ← hln, Nat.min_self]; exact hl, ?_⟩
            rw [h1]
            exact p σ _ (S1.change (List.contains_iff_mem.mp hi) (.obj upd_same ec h2 h3)) (k1.trans (S1.changeStp (List.contains_iff_mem.mp hi)) fun _ z => z)
        · rw [if_neg hc] at p; exact (show False from p).elim
      | _ => exact (show False from p).elim⟩
end
end Ip
namespace Ip
open PySem L2 PySem.Spec PyProof.Rows

/-! ## {k: v for target in iter if ..} -/
def compD (g : D → Env → Option Env) (tst : Env → R Bool) (fk f : Env → R D) (vs : List Nat) : List D → Env → List D → List D → R (List D × List D)
  | [], ρ, ks, acc => .ok (ks, acc) ρ
  | d :: ds, ρ, ks, acc => match g d ρ with
    | none => .bad
    | some ρ1 => match tst ρ1 with
      | .ok true ρ2 => match fk ρ2 with
        | .ok kd ρ3 => match f ρ3 with
          | .ok y ρ4 => if (toKey kd).isSome = true ∧ acc.length < sizeLine then compD g tst fk f vs ds (wipeE ρ4 vs) (dPut ks acc kd y).1 (dPut ks acc kd y).2 else .bad
          | _ => .bad
        | _ => .bad
      | .ok false ρ2 => compD g tst fk f vs ds (wipeE ρ2 vs) ks acc
      | _ => .bad
def mDc (fi : Env → R (List D)) (g : D → Env → Option Env) (tst : Env → R Bool) (fk f : Env → R D) (vs : List Nat) : Env → R D := fun ρ => (fi ρ).bind fun ds ρ1 => match compD g tst fk f vs ds (wipeE ρ1 vs) [] [] with
  | .ok acc ρ2 => .ok (.dic acc.1 acc.2) (restE ρ1 ρ2 vs)
  | _ => .bad
theorem dc_it {J : It} {n : Nat} {G : Hp → Prop} {Y : Nat → Hp → V → Hp → Prop} (w : Walk J n G Y) {g : TG} {tt : TT} {tk te : TE} {vs : List Nat} {σ : L2.St} {H1 : Hp} {D : Addr} {Qd : Hp → Prop} (Pv : Nat → Hp → Prop) (h0 : Pv 0 (upd H1 D (.dK []))) (hG : ∀ i H, i ≤ n → Pv i H → G H)
    (hs : ∀ i x H H', i < n → Pv i H → Y i H x H' → g x (wipe σ vs) H' fun σ2 H2 => wipe σ2 vs = wipe σ vs ∧ tt σ2 H2 fun b H3 =>
      if b = true then tk σ2 H3 fun y H4 => te σ2 H4 fun z H5 => ∃ kvs k, y = kV k ∧ H5 D = some (.dK kvs) ∧ kvs.length < sizeLine ∧ Pv (i + 1) (upd H5 D (.dK (putK kvs k z))) else Pv (i + 1) H3) (hd : ∀ H, Pv n H → Qd H) :
    ∃ W : Nat → Nat → Hp → Prop, (∃ m, W 0 m (upd H1 D (.dK []))) ∧ ∀ i m H, W i m H →
      (J.stop i H ∧ Qd H) ∨ (J.go i H ∧ ∃ Nx : Hp → Prop, (∀ H', Nx H' → ∃ m', m' < m ∧ W (i + 1) m' H') ∧ ∀ x H', J.yld i H x H' → g x (wipe σ vs) H' fun σ2 H2 => wipe σ2 vs = wipe σ vs ∧ tt σ2 H2 fun b H3 =>
        if b = true then tk σ2 H3 fun y H4 => te σ2 H4 fun z H5 => ∃ kvs k, y = kV k ∧ H5 D = some (.dK kvs) ∧ kvs.length < sizeLine ∧ Nx (upd H5 D (.dK (putK kvs k z))) else Nx H3) := by
  refine ⟨fun i m H => m = n - i ∧ i ≤ n ∧ Pv i H, ⟨n, by simp, Nat.zero_le _, h0⟩, fun i m H ⟨em, hi, p⟩ => ?_⟩
  subst em
  by_cases hlt : i < n
  · exact .inr ⟨w.goes i H hlt (hG i H hi p), Pv (i + 1), fun H' p' => ⟨n - (i + 1), by omega, rfl, hlt, p'⟩, fun x H' y => hs i x H H' hlt p (w.yields i H x H' hlt (hG i H hi p) y)⟩
  · have e : i = n := by omega
    subst e
    exact .inl ⟨w.stops H (hG _ H hi p), hd H p⟩
section
variable {X : Cx} {C : Ac} {W : WX} {Γ Γ0 Γ1 Γ2 Γ3 Γ' Γb : List Nat} {fr fr1 fr2 fr3 : Bool} {e a b c tg iter elt kx vx : Expr} {es ifs : List Expr} {ts : List Nat} {f fk h k : Env → R D} {frk : Bool} {g : D → Env → Option Env} {tst : Env → R Bool} {p pos apos cpos p2 : Pos} {fi : Env → R (List D)} {scope : Scope} {own : List (Str × Nat)}
/-- the new dict D stands beside -/
theorem dc_ok (hv : ∀ i ∈ Γ, i ∉ own.map (·.2)) (ht : ∀ i ∈ ts, i ∈ own.map (·.2)) {σ : L2.St} {H : Hp} {Q : VK} (p : tE X.K C W Γ0 Γ true (mDc fi g tst fk f (own.map (·.2))) σ H Q) :
    tDc (fun σ H Q => ∃ hid ρ, ST X.K C hid Γ0 ρ σ H ∧ PostI X.K C W Γ0 Γ hid σ H Q (fi ρ)) (tG X.K C Γ ts g) (tT X.K C Wn Γ Γ tst) (tE X.K C Wn Γ Γ frk fk) (tE X.K C Wn Γ Γ fr f) (own.map (·.2)) σ H Q := by
  obtain ⟨hid, ρ, S, p⟩ := p
  refine ⟨hid, ρ, S, ?_⟩
  unfold mDc at p
  cases q : fi ρ with
  | bad => rw [q] at p; exact p
  | exn e ρ' => rw [q] at p; exact p
  | ok ds ρ1 =>
    rw [q] at p
    dsimp only [R.bind] at p
    intro J H1 S1 k1 ⟨Gd, Y, w, hG, hY⟩ D hD
    generalize hvs : own.map (·.2) = vs at *
    have kh := S1.holdStp (o := HO.dK []) hD
    have S2 := S1.hold (o := HO.dK []) hD
    have hDn : D ∉ hid := fun z => (S1.trk D z).1 hD
    have hDM : D ∈ Ms σ (D :: hid) Γ := mem_Ms.mpr (.inl List.mem_cons_self)
    refine dc_it w (fun i H2 => ∃ (ρ2 : Env) (accD : List Ip.D) (kl : List Key) (acc : List V), ST X.K C (D :: hid) Γ ρ2 (L2.wipe σ vs) H2 ∧ Stp (Ms σ hid Γ) (Ms σ (D :: hid) Γ) hid H1 H2 ∧ H2 D = some (.dK (kl.zip acc)) ∧ kl.length = acc.length ∧ RVs (gx X.K C) (mask H2 (Ms σ (D :: hid) Γ)) accD acc ∧
      PostE X.K C W Γ0 Γ true hid σ H Q (match compD g tst fk f vs (ds.drop i) ρ2 (kl.map kD) accD with | .ok acc ρ2 => .ok (.dic acc.1 acc.2) (restE ρ1 ρ2 vs) | _ => .bad)) ?_ (fun i H2 _ ⟨ρ2, _, _, _, _, k2, _⟩ => hG _ _ k2.le) (fun i x H2 H3 hlt ⟨ρ2, accD, kl, acc, S2, k2, hl, hkl, ra, p2⟩ y => ?_) fun H2 ⟨ρ2, accD, kl, acc, S2, k2, hl, hkl, ra, p2⟩ => ?_
    · refine ⟨wipeE ρ1 vs, [], [], [], S2.wipe hv, kh, upd_same, rfl, .nil, ?_⟩
      rw [List.drop_zero]; exact p
    · have hd : ds[i]? = some ds[i] := List.getElem?_eq_getElem hlt
      rw [List.drop_eq_getElem_cons hlt] at p2
      obtain ⟨sm, rv⟩ := hY i x H2 H3 _ hd (hG _ _ k2.le) y
      have eM : Ms (L2.wipe σ vs) (D :: hid) Γ = Ms σ (D :: hid) Γ := Ms_wipe hv
      have r := rv (Ms σ (D :: hid) Γ) (by rw [← eM]; exact S2.hdM) k2.le
      have S3 := S2.same sm
      have keep : ∀ {A B : Hp}, Same A B → (∀ a ∈ hid, A a ≠ none) → Stp (Ms σ (D :: hid) Γ) (Ms σ (D :: hid) Γ) hid A B := fun {A B} sm tr => ⟨.of_same (mask_keep fun b o _ e => sm b o e), fun a ha => by
        cases z : A a with
        | none => exact absurd z (tr a ha)
        | some o => exact sm a o z⟩
      have k3 : Stp (Ms σ hid Γ) (Ms σ (D :: hid) Γ) hid H1 H3 := k2.trans (keep sm fun a ha => (S2.trk a (List.mem_cons_of_mem _ ha)).1) fun _ z => z
      have hl3 : H3 D = some (.dK (kl.zip acc)) := sm _ _ hl
      have ra3 : RVs (gx X.K C) (mask H3 (Ms σ (D :: hid) Γ)) accD acc := ra.mono (.of_same (mask_keep fun b o _ e => sm b o e))
      unfold compD at p2
      cases q2 : g ds[i] ρ2 with
      | none => simp only [q2] at p2; exact (show False from p2).elim
      | some ρ3 =>
        simp only [q2] at p2
        refine ⟨D :: hid, ρ2, ds[i], ρ3, S3, by rw [eM]; exact r, q2, fun σ4 H4 S4 k4 o4 => ?_⟩
        have ew : L2.wipe σ4 vs = L2.wipe σ vs := by
          rw [wipe_off o4 ht]
          exact wipe_off (ts := vs) ⟨wipe_length .., fun j hj => wipe_out hj⟩ fun _ z => z
        have eM4 : Ms σ4 (D :: hid) Γ = Ms σ (D :: hid) Γ := by rw [← Ms_wipe (σ := σ4) hv, ew, eM]
        refine ⟨ew, D :: hid, ρ3, S4, ?_⟩
        rw [eM, eM4] at k4
        have k4' : Stp (Ms σ hid Γ) (Ms σ (D :: hid) Γ) hid H1 H4 := k3.trans k4 fun a ha => List.mem_cons_of_mem _ ha
        have hl4 : H4 D = some (.dK (kl.zip acc)) := (k4.fx D List.mem_cons_self).trans hl3
        cases q3 : tst ρ3 with
        | bad => simp only [q3] at p2; exact p2
        | exn e ρ' => simp only [q3] at p2; exact (show False from p2).elim
        | ok b ρ4 =>
          simp only [q3] at p2
          intro H5 S5 k5
          rw [eM4] at k5
          have k5' : Stp (Ms σ hid Γ) (Ms σ (D :: hid) Γ) hid H1 H5 := k4'.trans k5 fun a ha => List.mem_cons_of_mem _ ha
          have hl5 : H5 D = some (.dK (kl.zip acc)) := (k5.fx D List.mem_cons_self).trans hl4
          have ra5 : RVs (gx X.K C) (mask H5 (Ms σ (D :: hid) Γ)) accD acc := (ra3.mono k4.le).mono k5.le
          cases b with
          | false =>
            rw [if_neg Bool.false_ne_true]
            refine ⟨wipeE ρ4 vs, accD, kl, acc, by rw [← ew]; exact S5.wipe hv, k5', hl5, hkl, ra5, p2⟩
          | true =>
            rw [if_pos rfl]
            refine ⟨D :: hid, ρ4, S5, ?_⟩
            cases q4 : fk ρ4 with
            | bad => simp only [q4] at p2; exact p2
            | exn e ρ' => simp only [q4] at p2; exact (show False from p2).elim
            | ok kd ρ5 =>
              simp only [q4] at p2
              intro kv H6 tm S6 k6 va t6
              rw [eM4] at k6
              refine ⟨tm ++ (D :: hid), ρ5, S6, ?_⟩
              cases q5 : f ρ5 with
              | bad => simp only [q5] at p2; exact p2
              | exn e ρ' => simp only [q5] at p2; exact (show False from p2).elim
              | ok y ρ6 =>
                simp only [q5] at p2
                intro v H7 tm7 S7 k7 vb t7
                by_cases z : (toKey kd).isSome = true ∧ accD.length < sizeLine
                · rw [if_pos z] at p2
                  obtain ⟨kk, ek⟩ := Option.isSome_iff_exists.mp z.1
                  have e1 := toKey_kD ek
                  subst e1
                  have ekv := kV_of va.shal0
                  have eMm : Ms σ4 (tm ++ (D :: hid)) Γ = Ms σ (tm ++ (D :: hid)) Γ := by
                    have h1 := Ms_wipe (σ := σ4) (hid := tm ++ (D :: hid)) hv
                    rw [ew] at h1
                    rw [← h1, Ms_wipe hv]
                  have S8 := S7.forget (hid' := D :: hid) (fun a ha => List.mem_append_right _ (List.mem_append_right _ ha)) S5.sub
                  have sub1 : ∀ b ∈ Ms σ4 (D :: hid) Γ, b ∈ Ms σ4 (tm7 ++ (tm ++ (D :: hid))) Γ := Ms_subH fun a ha => List.mem_append_right _ (List.mem_append_right _ ha)
                  have kA : Stp (Ms σ (D :: hid) Γ) (Ms σ (D :: hid) Γ) (D :: hid) H5 H7 := by
                    refine ⟨?_, fun a ha => (k7.fx a (List.mem_append_right _ ha)).trans (k6.fx a ha)⟩
                    have z1 := k6.le.trans k7.le
                    refine z1.trans (.of_same (mask_sub ?_))
                    rw [← eM4]; exact sub1
                  have rv7 : RV (gx X.K C) (mask H7 (Ms σ (D :: hid) Γ)) y v := by
                    have h1 := vb.rv (M' := Ms σ4 (tm ++ (D :: hid)) Γ) (Ms_subH fun a ha => List.mem_append_right _ ha) t7
                    rw [← eM4]
                    exact h1.mono (.of_same (mask_sub (Ms_subH fun a ha => List.mem_append_right _ ha)))
                  have hl7 : H7 D = some (.dK (kl.zip acc)) := (kA.fx D List.mem_cons_self).trans hl5
                  have ra7 : RVs (gx X.K C) (mask H7 (Ms σ (D :: hid) Γ)) accD acc := ra5.mono kA.le
                  obtain ⟨kl', us', h1, h2, h3, h4⟩ := putK_zip kk v y rv7 kl acc _ ra7 hkl
                  refine ⟨_, kk, ekv, hl7, by rw [List.length_zip, hkl, Nat.min_self, ← ra7.length]; exact z.2, wipeE ρ6 vs, _, kl', us', ?_, ?_, by rw [h1]; exact upd_same, h2, ?_, by rw [← h3]; exact p2⟩
                  · have S9 := S8.wipe hv
                    rw [ew] at S9
                    exact S9.tmpSet hDn S.sub
                  · exact (k5'.trans kA fun a ha => List.mem_cons_of_mem _ ha).tmpSet hDM hDn
                  · rw [mask_updM hDM]
                    exact h4
                · rw [if_neg z] at p2; exact (show False from p2).elim
    · rw [List.drop_length] at p2
      have S0 := S1.hold (o := HO.dK []) hD
      refine p2 (.ref D) H2 [D] (ST.unwipe S0 S2 hv ?_) (k1.trans k2 fun _ z => z) (.fr (.dK hl hkl ra)) fun b hb => ?_
      · refine HLe.trans (.of_same fun b u e => ?_) k2.le
        obtain ⟨e1, e2⟩ := mask_some e
        have hb : b ≠ D := fun z => e1 (z ▸ hDM)
        rw [upd_ne hb] at e2
        have hm : b ∉ Ms σ hid Γ := fun z => e1 (Ms_subH (hid := D :: hid) (fun a ha => List.mem_cons_of_mem _ ha) b z)
        rw [mask_out hm]
        exact e2
      · rw [List.mem_singleton.mp hb]; exact S1.none_out hD
theorem se_dc {ρs : List Nat} (hc : X.calm = true) (hN : X.N.Nodup) (ok : BlkOk X.N X.env.scope scope own) (hi : SI X C W Γ0 tg iter Γ fi) (hg : ∀ (s : Shared) (H : Hp) (Cc : Addr) (cl : List (Str × Addr)) (fp : List Addr), SG (X.blk s H scope (compEnvC scope cl Cc X.env) fp) C Γ tg ts g)
    (ht : ∀ (s : Shared) (H : Hp) (Cc : Addr) (cl : List (Str × Addr)) (fp : List Addr), SPs (X.blk s H scope (compEnvC scope cl Cc X.env) fp) C Wn Γ ifs Γ tst) (hk : ∀ (s : Shared) (H : Hp) (Cc : Addr) (cl : List (Str × Addr)) (fp : List Addr), SE (X.blk s H scope (compEnvC scope cl Cc X.env) fp) C Wn Γ kx Γ frk fk)
    (he : ∀ (s : Shared) (H : Hp) (Cc : Addr) (cl : List (Str × Addr)) (fp : List Addr), SE (X.blk s H scope (compEnvC scope cl Cc X.env) fp) C Wn Γ vx Γ fr f)
    (hρ : ρs = own.map (·.2) := by rfl) (hv : (Γ.all fun i => !ρs.contains i) = true := by rfl) (hts : (ts.all fun i => ρs.contains i) = true := by rfl) (hs : ∀ x, foldedSetIterable iter X.env x = pure x := by intro _; rfl) : SE X C W Γ0 (.DictComp kx vx [⟨tg, iter, ifs, 0⟩] scope pos) Γ true (mDc fi g tst fk f ρs) := by
  subst hρ
  exact ⟨peImp (pe_dc hc hN hi.pi ok (fun s H Cc cl fp => (hg s H Cc cl fp).pg) (fun s H Cc cl fp => (ht s H Cc cl fp).pt) (fun s H Cc cl fp => (hk s H Cc cl fp).pe) (fun s H Cc cl fp => (he s H Cc cl fp).pe) hs) fun σ H Q p =>
    dc_ok (fun i hi z => by have := List.all_eq_true.mp hv i hi; rw [List.contains_iff_mem.mpr z] at this; cases this) (fun i hi => List.contains_iff_mem.mp (List.all_eq_true.mp hts i hi)) p⟩
end
end Ip
namespace Ip
open PySem L2 PySem.Spec PyProof.Rows

/-! ## list(reversed(x)) -/
section
variable {prog : Program} {w : World} {A : Around} {E : Value → Shared → Prop} {s : Shared}
theorem list_of_rev {it l : Addr} {items : Array Value} {Q : Value → Shared → Prop} (hh : A.handled = none) (hit : s.heap.IsRevIter it l ((items.size : Int) - 1)) (hl : s.heap.IsList l items) (hne : l ≠ it) (hn : items.size ≤ sizeLine)
    (hQ : ∀ (h' : Heap) (tk : Nat) (acc : Array Value) (c : Nat), (∀ b o, b ≠ it → s.heap.get? b = some o → h'.get? b = some o) → h'.get? s.heap.objs.size = some { cls := .type "list", dict := none, data := .seq acc c, slots := #[] } →
      ItemsOf (fun i v => items[items.size - 1 - i]? = some v) acc items.size → Q (.ref s.heap.objs.size) { s with heap := h', toks := tk }) : wpAny (model prog w) A (call (.type "list") [.ref it]) Q E s := by
  have W := (Walks.listRev (prog := prog) (w := w) (A := A.in1.in1) hh it l hne items).toS
  obtain ⟨oi, hoi, _⟩ := id hit; obtain ⟨ol, hol, _⟩ := id hl
  have hSi : s.heap.objs.size ≠ it := Nat.ne_of_gt (Heap.lt_size hoi)
  have hSl : s.heap.objs.size ≠ l := Nat.ne_of_gt (Heap.lt_size hol)
  have hSf : s.heap.objs.size ∉ [it, l] := by simp [hSi, hSl]
  refine callType_codes (Q₁ := fun ob s1 => ob = .ref s.heap.objs.size ∧ s1 = { s with heap := s.heap.push { cls := .type "list", data := .seq #[] } }) PySem.F.called_list (PySem.F.typeCall_list_1 _) PySem.F.entry_list_init (code_list_new _ ⟨rfl, rfl⟩) fun ob s1 ⟨e1, e2⟩ => ?_
  subst e1; subst e2
  have hS0 : (s.heap.push { cls := .type "list", data := .seq #[] }).get? s.heap.objs.size = some { cls := .type "list", data := .seq #[] } := Heap.get?_push_size _ rfl
  refine ⟨⟨_, hS0, rfl⟩, PySem.F.args_list_init_2 _ _, ?_⟩
  show wpAny _ A.in1.in1 (do let old ← Builtin.List.listItems (.ref s.heap.objs.size); Builtin.List.listUpdate (.ref s.heap.objs.size) (fun _ => #[]); letGo old.toList.reverse; Builtin.List.listExtendWith (.ref s.heap.objs.size) (.ref it) .none) _ _ _
  refine wpAny_bind ?_
  unfold Builtin.List.listItems
  refine wpAny_bind (wpAny_seqItems hS0 rfl (wpAny_pure ?_))
  show wpAny _ A.in1.in1 (updateSeq s.heap.objs.size (fun _ => #[]) >>= fun _ => letGo (#[] : Array Value).toList.reverse >>= fun _ => Builtin.List.listExtendWith (.ref s.heap.objs.size) (.ref it) .none) _ _ _
  refine wpAny_bind (wpAny_updateSeq hS0 rfl (wpAny_bind (wpAny_letGo ?_)))
  have hS2 := Heap.get?_update_self (Obj.mapSeq (fun _ => (#[] : Array Value))) hS0 rfl
  have kp : ∀ b o, b ≠ s.heap.objs.size → s.heap.get? b = some o → ((s.heap.push { cls := .type "list", data := .seq #[] }).update s.heap.objs.size (Obj.mapSeq (fun _ => (#[] : Array Value)))).get? b = some o := fun b o hb e => (Heap.get?_update_other _ _ (Ne.symm hb)).trans (Heap.get?_push_of_some _ e)
  generalize hg : ((s.heap.push { cls := .type "list", data := .seq #[] }).update s.heap.objs.size (Obj.mapSeq (fun _ => (#[] : Array Value)))) = h2 at hS2 kp ⊢
  have hit2 : h2.IsRevIter it l ((items.size : Int) - 1) := hit.at fun o e => kp it o (Ne.symm hSi) e
  have hl2 : h2.IsList l items := by obtain ⟨o, e, r⟩ := hl; exact ⟨o, kp l o (Ne.symm hSl) e, r⟩
  have hT : ({ s with heap := h2 } : Shared).TypeIs (.ref it) "list_reverseiterator" := Heap.IsRevIter.typeIs (s := { s with heap := h2 }) hit2
  have hsm : Builtin.List.listSameRef (.ref s.heap.objs.size) (.ref it) = false := by simp [Builtin.List.listSameRef, hSi]
  unfold Builtin.List.listExtendWith
  refine wpAny_bind (wpAny_typeOf hT ?_); rw [if_neg (by rw [hsm]; decide)]
  refine wpAny_bind (wpAny_pyIter_revIter (s := { s with heap := h2 }) hit2 (wpAny_bind (wpAny_holding ?_)))
  unfold Builtin.List.listLengthHint
  refine wpAny_bind (wpAny_specialOf hT RT.nolen_lri ?_)
  show wpAny _ A.in1.in1 (specialOf (Value.ref it) (Str.ofString "__length_hint__") >>= _) _ _ _
  refine wpAny_bind (wpAny_specialOf hT RT.hint_lri ?_); generalize hid : ("list_reverseiterator.__length_hint__" : String) = id0
  wp_delta
  rw [show splitId id0 = some ("list_reverseiterator", "__length_hint__") from by subst hid; decide +kernel]; subst hid
  refine wpAny_bind (wpAny_isInstance (b := true) hT (by rw [isSubtype_type]; kernel_rfl) (wpAny_pure ?_)); rw [if_neg (by decide)]
  have e0 : ((items.size : Nat) : Int) - 1 - ((0 : Nat) : Int) = (items.size : Int) - 1 := by omega
  refine wpAny_pure ⟨plainId_quiet PySem.F.plain_extend_loop _, codeAny_extend_loopS W hn _ hSf _ items.size 0 _ _ _ rfl (Nat.zero_le _) ⟨Nat.zero_le _, by rw [e0]; exact hit2, hl2⟩ hS2 (ItemsOf.nil _) fun s' acc' c' hm hS' hacc => ?_⟩
  rw [Moved.eq_with hm]
  refine ⟨rfl, hQ s'.heap s'.toks acc' c' (fun b o hb e => hm.heap b o (fun hmem => ?_) (kp b o (Nat.ne_of_lt (Heap.lt_size e)) e)) hS' hacc⟩
  rcases List.mem_cons.mp hmem with z | z
  · exact absurd (Heap.lt_size e) (by rw [z]; exact Nat.lt_irrefl _)
  · exact hb (List.mem_singleton.mp z)
end
theorem vals_back {xs : List V} {its : List Value} {acc : Array Value} (r : Vals xs its) (h : ItemsOf (fun i v => its.toArray[its.toArray.size - 1 - i]? = some v) acc its.toArray.size) : Vals xs.reverse acc.toList := by
  have e : acc.toList = its.reverse := by
    refine List.ext_getElem? fun j => ?_
    have hz : acc.toList.length = its.length := by rw [Array.length_toList, h.1, List.size_toArray]
    by_cases hj : j < its.length
    · have q := h.2 j acc.toList[j] (by rw [← Array.getElem?_toList]; exact List.getElem?_eq_getElem (by omega))
      rw [List.getElem?_eq_getElem (by omega), List.getElem?_reverse hj, ← q]
      simp
    · rw [List.getElem?_eq_none (by omega), List.getElem?_eq_none (by rw [List.length_reverse]; omega)]
  rw [e]
  exact r.reverse
section
variable {X : Cx} {C : Ac} {W : WX} {Γ Γ' : List Nat} {fr : Bool} {e : Expr} {f : Env → R D} {p pos p2 pos2 : Pos}
def revD : D → Option D
  | .lst ds => some (.lst ds.reverse)
  | _ => none
theorem pe_listRev {te : TE} (hc : X.calm = true) (hm : X.mg "list" = none) (hm2 : X.mg "reversed" = none) (he : PE X e te) (hg : Gl X "list") (hg2 : Gl X "reversed") (hs : starEach [e] X.env = (false, eval e X.env) :: starEach [] X.env)
    (hs2 : starEach [.Call (.Name "reversed" p2) [e] [] pos2] X.env = (false, eval (.Call (.Name "reversed" p2) [e] [] pos2) X.env) :: starEach [] X.env) :
    PE X (.Call (.Name "list" p) [.Call (.Name "reversed" p2) [e] [] pos2] [] pos) fun σ H Q => te σ H fun v H1 => ∃ (a : Addr) (xs : List V), v = .ref a ∧ SqL X.K H1 a xs ∧ ∀ q, H1 q = none → Q (.ref q) (upd H1 q (.lst xs.reverse)) := ⟨fun pins s σ H Q I h => by
  refine Call_ (ld_blt I hg hm PyProof.Rows.boot_list (PyProof.Rows.callWith_type1 (args_cons (Call_ (ld_blt I hg2 hm2 PyProof.Rows.boot_reversed (PyProof.Rows.callWith_type1 (args_cons (thn (he.run pins s σ H _ I h) fun u s1 ⟨v, H1, I1, r1, a, xs, ev, hq, q⟩ => args_nil ?_) hs) hs rfl))) hs2) hs2 rfl))
  subst ev; cases r1
  obtain ⟨its, rv, pl, hz⟩ := I1.list hq
  refine call_reversed_list pl.isList (args_nil ?_)
  have k0 : ∀ b o, s1.heap.get? b = some o → (s1.heap.push (revObj a ((its.toArray.size : Int) - 1))).get? b = some o := fun b o e => Heap.get?_push_of_some _ e
  have I2 : Inv X pins σ H1 { s1 with heap := s1.heap.push (revObj a ((its.toArray.size : Int) - 1)) } := I1.kept (t' := s1.toks) k0
  obtain ⟨f0, f1, f2, f3, f4, f5⟩ := I1.fpOk (H' := H1) (b := s1.heap.objs.size) (Nat.le_refl _) (I1.hok.fresh (Nat.le_refl _))
  obtain ⟨ol, hol, _⟩ := pl.isList
  refine list_of_rev (s := { s1 with heap := s1.heap.push (revObj a ((its.toArray.size : Int) - 1)) }) (I1.ok.hd hc) ⟨_, Heap.get?_push_size _ rfl, rfl, rfl⟩ (pl.isList.push _) (Nat.ne_of_lt (Heap.lt_size hol)) (by rw [List.size_toArray, ← rv.length]; exact hz) fun h' tk acc c hk hS hi => ?_
  have I3 : Inv X pins σ H1 { s1 with heap := h', toks := tk } := I2.turned (t' := tk) (fun b o hb e => hk b o hb e) f0 f1 f3 f4 f5
  have hfr : H1 (s1.heap.push (revObj a ((its.toArray.size : Int) - 1))).objs.size = none := I2.hok.fresh (Nat.le_refl _)
  have I4 : Inv X pins σ (upd H1 (s1.heap.push (revObj a ((its.toArray.size : Int) - 1))).objs.size (.lst xs.reverse)) { s1 with heap := h', toks := tk } := by
    refine I2.turnedNew (t' := tk) (ch := [s1.heap.objs.size]) (fun b o hb e => hk b o (by simpa using hb) e) (fun b hb => ?_) (Nat.le_refl _) ⟨by rw [List.length_reverse]; exact hz, acc.toList, c, vals_back rv hi, by rw [Array.toArray_toList]; exact hS⟩
    rw [List.mem_singleton.mp hb]
    exact ⟨f0, f1, f2, f3, f4, f5⟩
  exact ⟨.ref (s1.heap.push (revObj a ((its.toArray.size : Int) - 1))).objs.size, _, I4, rfl, q _ hfr⟩⟩
theorem se_listRev (hc : X.calm = true) (ha : SE X C W Γ e Γ' fr f) (hm : X.mg "list" = none) (hm2 : X.mg "reversed" = none) (hg : Gl X "list" := by rfl) (hg2 : Gl X "reversed" := by rfl) (hs : starEach [e] X.env = (false, eval e X.env) :: starEach [] X.env := by rfl)
    (hs2 : starEach [.Call (.Name "reversed" p2) [e] [] pos2] X.env = (false, eval (.Call (.Name "reversed" p2) [e] [] pos2) X.env) :: starEach [] X.env := by rfl) : SE X C W Γ (.Call (.Name "list" p) [.Call (.Name "reversed" p2) [e] [] pos2] [] pos) Γ' true (mUn revD f) := ⟨peImp (pe_listRev hc hm hm2 ha.pe hg hg2 hs hs2) fun σ H Q ⟨hid, ρ, S, p⟩ => by
  refine ⟨hid, ρ, S, ?_⟩
  unfold mUn at p
  cases q : f ρ with
  | bad => rw [q] at p; exact p
  | exn e ρ' => rw [q] at p; exact p
  | ok d ρ1 =>
    rw [q] at p
    dsimp only [R.bind] at p
    intro v H1 tm S1 k1 va t1
    cases d with
    | lst ds =>
      have sh := va.shal0
      cases sh with
      | lst h r => exact ⟨_, _, rfl, h, fun q hq => fin_fr p S.sub S1 k1 q _ hq (.lst upd_same r.reverse)⟩
    | _ => exact (show False from p).elim⟩
end
/-! ## defs by their data -/
theorem def_okD {P : Program} {w : World} {K : PySem.W.Frag} {mg : Str → Option Value} {base : Heap} {x qual : Str} {pr : Arguments} {bd : List Stmt} {sc : Scope} {f : Addr} {fd : FuncData} {N ps : List Str} {k n : Nat} {io : List Nat} {fr : Bool} {ct : Str → Option Addr} {sem : Env → R Fl}
    (F : FunD K x qual pr bd sc [] [] f fd) (S : FnScope N ps sc) (hn : n = ps.length)
    (hb : ∀ (cdv : Value) (A : Around) (outer : List PySem.Env) (s : Shared) (H : Hp) (E : XK) (hid ioA : List Addr), Room k (A.deeper (envOfC qual sc s.heap.objs.size f cdv)) →
      SSs (cxOf (L2.CX P w) P w K mg base N qual sc f cdv A outer s H E) ⟨ct, H, hid, io, ioA⟩ (fun cls od _ H' => E cls od H') io bd io [] fr sem) :
    FnOk P w K mg base (L2.CX P w) (k + 1) f fd ps (spF K ct n io fr (fnSem N.length io sem)) := by
  refine F.ok S (spF_len hn) fun cdv A outer s H vs Q E hr h => ?_
  refine body_sp (X := cxOf (L2.CX P w) P w K mg base N qual sc f cdv A outer s H E) (W := fun cls od _ H' => E cls od H') rfl (fun _ _ _ _ h => h) (fun hid ioA => hb cdv A outer s H E hid ioA hr) ?_ h
  have := congrArg List.length S.pre
  rw [List.length_take] at this
  omega
theorem cx_takes {P : Program} {w : World} {K : PySem.W.Frag} {mg : Str → Option Value} {base : Heap} {qual : Str} {sc : Scope} {f : Addr} {N : List Str} {cdv : Value} {A : Around} {outer : List PySem.Env} {s : Shared} {H : Hp} {E : XK} : Takes (cxOf (L2.CX P w) P w K mg base N qual sc f cdv A outer s H E) (fun cls od _ H' => E cls od H') := takes_of rfl rfl rfl rfl
theorem cx_own {P : Program} {w : World} {K : PySem.W.Frag} {mg : Str → Option Value} {base : Heap} {qual : Str} {sc : Scope} {f : Addr} {N : List Str} {cdv : Value} {A : Around} {outer : List PySem.Env} {s : Shared} {H : Hp} {E : XK} : PassesOwn (model P w) (A.deeper (envOfC qual sc s.heap.objs.size f cdv)) (cxOf (L2.CX P w) P w K mg base N qual sc f cdv A outer s H E).env (cxOf (L2.CX P w) P w K mg base N qual sc f cdv A outer s H E).xe := passes_of (X := cxOf (L2.CX P w) P w K mg base N qual sc f cdv A outer s H E) rfl
theorem takes_no {X : Cx} (h : X.xe = fun _ _ => False) : Takes X Wn := fun u s' ⟨a, B, sI, pins, σ, H, cls, d, e, I, nb, up, sky, na, os, ag, w⟩ => (show False from w).elim
end Ip
namespace Ip
open PySem L2 PySem.Spec PyProof.Rows

section
variable {X : Cx} {C : Ac} {W : WX} {Γ Γ0 Γ1 Γ2 Γ3 Γ' Γb : List Nat} {fr fr1 fr2 fr3 : Bool} {e a b c tg : Expr} {es elts : List Expr} {f h k : Env → R D} {p pos pos' apos cpos p2 np tpos : Pos} {f2 : Env → R (D × D)} {st : Stmt} {sts : List Stmt} {fs gs : Env → R Fl}
theorem sp_cmp2 {op : CmpOp} {r : R2} {opD : D → D → Option D} (ho : OpR X (compareOp op) r) (hs : OpS ⟨X.K, C.ct⟩ r opD) (h2 : S2 X C W Γ a b Γ' f2) (hm : behindInMarks op b = false := by rfl) : SP X C W Γ (.Compare a [op] [b] pos) Γ' (mTest (m2 opD f2)) := by
  obtain ⟨ta, tb, pa, pb, hx⟩ := h2.ex
  exact ⟨ptImp (pt_cmpR ho pa pb hm) fun _ _ _ p => m2_tE hs hx (tT_tE p)⟩
theorem sp_chain {op op' : CmpOp} {r r' : R2} {opD opD' : D → D → Option D} (ho : OpR X (compareOp op) r) (ho' : OpR X (compareOp op') r') (hs : OpS ⟨X.K, C.ct⟩ r opD) (hs' : OpS ⟨X.K, C.ct⟩ r' opD') (ha : SE X C W Γ a Γ1 fr1 f) (hb : SE X C W Γ1 b Γ2 fr2 h) (hc : SE X C W Γ2 c Γ3 fr3 k)
    (hk : okG C.io Γ3 Γ2 = true := by rfl) (hm : lastMarks [op, op'] [b, c] = false := by with_unfolding_all rfl) : SP X C W Γ (.Compare a [op, op'] [b, c] pos) Γ3 (mTest (mChain opD opD' f h k)) :=
  ⟨ptImp (pt_chain ho ho' ha.pe hb.pe hc.pe hm) fun _ _ _ p => chain_tE hs hs' hk (tT_tE p)⟩
theorem se_neg (ha : SE X C W Γ a Γ' fr f) : SE X C W Γ (.UnaryOp .USub a pos) Γ' false (mUn negD f) := ⟨peImp (pe_un un_neg ha.pe) fun _ _ _ p => un_tE neg_ok p⟩
/-- let some owned slots go behind a statement -/
theorem ss_let (h1 : SS X C W Γ st Γ1 Γb fr fs) (hk : okG C.io Γ2 Γ1 = true := by rfl) : SS X C W Γ st Γ2 Γb fr fs := ⟨psImp h1.ps fun Dn σ H ⟨ρ, S, p⟩ => by
  refine ⟨ρ, S, ?_⟩
  obtain ⟨h1, h2, h3⟩ := okG_of hk
  cases q : fs ρ with
  | bad => rw [q] at p; exact p
  | exn e ρ' => rw [q] at p; exact p
  | ok d ρ' =>
    rw [q] at p
    cases d with
    | nx => exact fun σ' H' S' k' => p σ' H' (S'.weak h1 h2 h3) (ST.weakStp (K := X.K) k' h1)
    | bk => exact p
    | ct => exact p
    | rt d => exact p⟩
end
theorem room1 {k : Nat} {A : Around} (r : Room k A) : A.units + 1 < cLine := by have := r.un; omega
theorem room64 {k : Nat} {A : Around} (r : Room k A) : A.units + 64 < cLine := by have := r.un; omega
theorem room65 {k : Nat} {A : Around} (r : Room k A) : A.units + 65 < cLine := by have := r.un; omega
theorem one_cls {P : Str → Prop} {c0 : Str} (h : P c0) : ∀ c, [c0].contains c = true → P c := fun c hc => by
  have : c = c0 := by simpa using hc
  rw [this]; exact h
end Ip
namespace Ip
open PySem L2 PySem.Spec PyProof.Rows
theorem suite_ps {X : Cx} {i : Nat} {a : Addr} {e : Expr} {v : V} (j : Nat) {x : Str} {p pos : Pos} (hN : X.N.Nodup) (h : SX X i a e v) (hx : X.N[j]? = some x := by rfl) (hl : Loc X.env.scope x := by first | exact Or.inl rfl | exact Or.inr rfl) (hs : swapsWith e (some (.Name x p)) pos.line X.env = pure false := by rfl)
    (hf : X.fn x = true ∨ X.env.scope.names.lookup x = some .local := by first | exact .inl rfl | exact .inr rfl | assumption) : PSs X [.Assign [.Name x p] e pos] fun Dn σ H => σ[i]? = some (some (.ref a)) ∧ ∀ H', Same H H' → Dn.nx (σ.set j (some v)) H' :=
  pss_one (psImp (ps_set hN hx hl h.pe hs hf) fun Dn σ H q => q)
/-! ## tuple(a text) -/
def rTupS : List V → Hp → VK → Prop := fun xs H Q => ∃ x : Str, xs = [.str x] ∧ x.cps.size ≤ sizeLine ∧ ∀ l, H l = none → Q (.ref l) (upd H l (.tup (x.cps.toList.map fun c => V.str ⟨#[c]⟩)))
theorem call_tupS {X : Cx} (hc : X.calm = true) : CallR X (.type "tuple") rTupS := fun pins s σ H xs us Q I r ⟨x, ex, hz, q⟩ => by
  subst ex
  obtain ⟨u, rfl, t, rfl⟩ := vals1 r
  refine call_tuple_str (I.ok.hd hc) x t (fun h' tk acc hk hi => ?_) hz
  have rv := vals_signs x acc.toList 0 (by have := hi.1; simp [Array.length_toList, this]) fun i v hv => by
    rw [Nat.zero_add]; exact hi.2 i v (by rw [← Array.getElem?_toList]; exact hv)
  rw [List.drop_zero] at rv
  have I1 : Inv X pins σ H { s with heap := h', toks := tk } := I.kept (t' := tk) hk
  refine ⟨.ref _, _, I1.laid (t' := tk) (fun b o e => Heap.get?_push_of_some _ e) (Nat.le_refl _) (o := .tup (x.cps.toList.map fun c => V.str ⟨#[c]⟩)) ⟨by rw [List.length_map, Array.length_toList]; exact hz, acc.toList, rv, ?_⟩, rfl, q _ (I1.hok.fresh (Nat.le_refl _))⟩
  rw [Array.toArray_toList]; exact IsTup.new _ _
def oTupS : List D → Option D
  | [.str x] => ifO (x.cps.size ≤ sizeLine) (.tup (x.cps.toList.map chD))
  | _ => none
theorem cal_tupS {g : Gx} : CalS g rTupS oTupS := fun H M vs ds d Q tr ks ho q => by
  unfold oTupS at ho
  split at ho
  · obtain ⟨hz, rfl⟩ := ifO_some ho
    obtain ⟨v, rfl, s⟩ := shals1 ks
    cases s
    refine ⟨_, rfl, hz, fun l hl => ?_⟩
    have hn : l ∉ M := fun z => tr l z hl
    exact q _ _ (same_upd hl) (.tup (by rw [mask_out hn, upd_same]) (rvs_signs _))
  · cases ho
end Ip
namespace Ip
open PySem L2 PySem.Spec PyProof.Rows
/-! ## the head's facts, with more of the errors' classes -/
def excC (K : PySem.W.Frag) (x : Str) : Bool := decide (PySem.W.findIn K (.ref (He.ga K x)) "__getattribute__" = some (some (.builtin "BaseException.__getattribute__"))) && (decide (PySem.W.findIn K (.ref (He.ga K x)) "__getattr__" = some none) && (decide (PySem.W.subIn K (.ref (He.ga K x)) (.type "BaseException") = some true) &&
  (PySem.W.hasDictIn K (He.ga K x) && (decide (PySem.W.findIn K (.ref (He.ga K x)) "__class__" = some (some (.builtin "object.__class__"))) && (decide (PySem.W.specialIn K (.builtin "object.__class__") "__get__" = some (some (.builtin "getset_descriptor.__get__"))) &&
  (decide (PySem.W.takesIn K (.builtin "object.__class__") = some true) && decide (PySem.W.mroIn K (He.ga K x) (.type "object") = some true)))))))
theorem excC_ok {K : PySem.W.Frag} {x : Str} (h : excC K x = true) : ExcC K (He.ga K x) := by
  simp only [excC, Bool.and_eq_true, decide_eq_true_eq] at h
  obtain ⟨h1, h2, h3, h4, h5, h6, h7, h8⟩ := h
  exact ⟨h1, h2, h3, h4, h5, h6, h7, h8⟩
def kitC (K : PySem.W.Frag) (x y : Str) (b : Bool) : Bool := decide (PySem.W.kitOne K (.ref (He.ga K x)) (.ref (He.ga K y)) = some b)
theorem kitC_ok {K : PySem.W.Frag} {x y : Str} {b : Bool} (h : kitC K x y b = true) : PySem.W.kitOne K (.ref (He.ga K x)) (.ref (He.ga K y)) = some b := of_decide_eq_true h
def obsX (fa : List He.Fa) (fn : List He.DefD) (xs : List (PySem.W.Frag → Bool)) (K : PySem.W.Frag) : He.AlD := (((fa.all fun f => f.ok K) && fn.all fun d => d.ok K) && xs.all fun x => x K, fn.map fun d => He.fnW K d.at_)
def SaysX (fa : List He.Fa) (fn : List He.DefD) (xs : List (PySem.W.Frag → Bool)) (K : PySem.W.Frag) : Prop := obsX fa fn xs K = He.valD fn
def obsXG (n : Nat) (fa : List He.Fa) (fn : List He.DefD) (xs : List (PySem.W.Frag → Bool)) (g : Addr → Option Obj) : He.AlD := obsX fa fn xs (He.frG g (He.asD g n))
def hookX (n : Nat) (fa : List He.Fa) (fn : List He.DefD) (xs : List (PySem.W.Frag → Bool)) : PySem.W.Hook where
  α := He.AlD
  obs := fun s => obsXG n fa fn xs s.heap.get?
  val := fun _ => He.valD fn
  says := fun _ h => ∃ K : PySem.W.Frag, K.In h ∧ SaysX fa fn xs K
  of := fun _ _ e => ⟨_, He.frG_in, e⟩
  keeps := fun _ _ _ ⟨K, hK, c⟩ k => ⟨K, PySem.W.Frag.In.keeps hK k, c⟩
theorem obsXG_eq {n : Nat} {fa : List He.Fa} {fn : List He.DefD} {xs : List (PySem.W.Frag → Bool)} {g : Addr → Option Obj} {s : Shared} (h : ∀ a, g a = s.heap.get? a) : obsXG n fa fn xs g = (hookX n fa fn xs).obs s := by
  rw [show g = s.heap.get? from funext h]; rfl
section
variable {fa : List He.Fa} {fn : List He.DefD} {xs : List (PySem.W.Frag → Bool)} {K : PySem.W.Frag}
theorem SaysX.d (c : SaysX fa fn xs K) : He.SaysD fa fn K := by
  have h1 : (((fa.all fun f => f.ok K) && fn.all fun d => d.ok K) && xs.all fun x => x K) = true := congrArg (fun z : He.AlD => z.1) c
  have h2 : fn.map (fun d => He.fnW K d.at_) = fn.map He.DefD.val := congrArg (fun z : He.AlD => z.2) c
  unfold He.SaysD He.obsD He.valD
  rw [h2, (Bool.and_eq_true_iff.mp h1).1]
theorem SaysX.x (c : SaysX fa fn xs K) (i : Nat) {x : PySem.W.Frag → Bool} (h : xs[i]? = some x := by rfl) : x K = true := by
  have h1 : (((fa.all fun f => f.ok K) && fn.all fun d => d.ok K) && xs.all fun x => x K) = true := congrArg (fun z : He.AlD => z.1) c
  exact List.all_eq_true.mp (Bool.and_eq_true_iff.mp h1).2 x (List.mem_of_getElem? h)
end
/-- the law's promise, from its semantics -/
theorem law_sp {K : PySem.W.Frag} {ct : Str → Option Addr} {F : FSem} {H : Hp} {a : Addr} {ns : List Int} (hF : ∃ outs, F [.lst (ns.map D.int)] = .ok (.bl true) outs) (h : SqL K H a (ns.map V.int)) : spF K ct 1 [] false F [.ref a] H (fun v _ => v = .bl true) fun _ _ _ => False := by
  obtain ⟨outs, e⟩ := hF
  have em : mask H ([] : List Addr) = H := by funext b; exact mask_out (by simp)
  refine ⟨[.lst (ns.map D.int)], [], [], rfl, ⟨rfl, rfl, List.nodup_nil, (fun _ z => nomatch z), (fun _ z => nomatch z), fun i d _ hd => ?_, (fun _ z => nomatch z)⟩, ?_⟩
  · match i, hd with
    | 0, hd => cases hd; exact ⟨_, rfl, .lst (by rw [List.append_nil, em]; exact h) (RVs.ints ns)⟩
  · rw [e]
    intro v H' tm _ va
    exact (val_bl va).1
theorem law_cx {P : Program} {w : World} : ∀ (H : Hp) (s : Shared) (e : Value) (s' : Shared), L2.CX P w [] H s (fun _ _ _ => False) e s' → False := fun _ _ _ _ ⟨_, _, _, _, _, _, _, _, _, _, _, _, z⟩ => z
end Ip
namespace Ip
open PySem L2

/-! ## how the words are reckoned -/
variable {α : Type} {i j n : Nat} {ρ ρ0 ρ1 ρ2 ρ3 : Env} {d x y z : D} {ds es : List D} {f h k : Env → R D} {g : Env → R (List D)} {f2 : Env → R (D × D)} {op op' : D → D → Option D} {c c2 : Env → R Bool} {b : Bool} {fs gs body : Env → R Fl} {r : R Fl} {rd : R D} {gt : D → Env → Option Env} {F : FSem}
theorem ev_c : mC d ρ = .ok d ρ := rfl
theorem ev_var (e : ρ.getD i none = some d) : mVar i ρ = .ok d ρ := by unfold mVar; rw [e]; rfl
theorem ev_pair (e1 : f ρ = .ok x ρ1) (e2 : h ρ1 = .ok y ρ2) : mPair f h ρ = .ok (x, y) ρ2 := by unfold mPair; rw [e1]; dsimp only [R.bind]; rw [e2]
theorem ev_pairO (e1 : h ρ = .ok y ρ2) (e2 : ρ2.getD i none = some x) : mPairO i h ρ = .ok (x, y) ρ2 := by unfold mPairO; rw [e1]; dsimp only [R.bind]; rw [e2]
theorem ev_pairR (e1 : f ρ = .ok x ρ2) (e2 : ρ2.getD i none = some y) : mPairR f i ρ = .ok (x, y) ρ2 := by unfold mPairR; rw [e1]; dsimp only [R.bind]; rw [e2]
theorem ev_m2 (e1 : f2 ρ = .ok (x, y) ρ2) (e2 : op x y = some z) : m2 op f2 ρ = .ok z ρ2 := by unfold m2; rw [e1]; dsimp only [R.bind]; rw [e2]; rfl
theorem ev_un {o : D → Option D} (e1 : f ρ = .ok x ρ2) (e2 : o x = some z) : mUn o f ρ = .ok z ρ2 := by unfold mUn; rw [e1]; dsimp only [R.bind]; rw [e2]; rfl
theorem ev_nil : mNil ρ = .ok [] ρ := rfl
theorem ev_cons (e1 : f ρ = .ok x ρ1) (e2 : g ρ1 = .ok ds ρ2) : mCons f g ρ = .ok (x :: ds) ρ2 := by unfold mCons; rw [e1]; dsimp only [R.bind]; rw [e2]
theorem ev_own (e1 : g ρ = .ok ds ρ2) (e2 : ρ2.getD i none = some x) : mOwn i g ρ = .ok (x :: ds) ρ2 := by unfold mOwn; rw [e1]; dsimp only [R.bind]; rw [e2]
theorem ev_io (e1 : g ρ = .ok ds ρ2) : mIo g ρ = .ok (.non :: ds) ρ2 := by unfold mIo; rw [e1]; rfl
theorem ev_arg {o : List D → Option D} (e1 : g ρ = .ok ds ρ2) (e2 : o ds = some z) : mArg o g ρ = .ok z ρ2 := by unfold mArg; rw [e1]; dsimp only [R.bind]; rw [e2]; rfl
theorem ev_argI {o : List D → Option (List D)} (e1 : g ρ = .ok ds ρ2) (e2 : o ds = some es) : mArgI o g ρ = .ok es ρ2 := by unfold mArgI; rw [e1]; dsimp only [R.bind]; rw [e2]; rfl
theorem ev_seqI (e1 : f ρ = .ok x ρ2) (e2 : asSeq x = some es) : mSeqI f ρ = .ok es ρ2 := by unfold mSeqI; rw [e1]; dsimp only [R.bind]; rw [e2]; rfl
theorem ev_tup (e1 : g ρ = .ok ds ρ2) : mTup g ρ = .ok (.tup ds) ρ2 := by unfold mTup; rw [e1]; rfl
theorem ev_lst (e1 : g ρ = .ok ds ρ2) : mLst g ρ = .ok (.lst ds) ρ2 := by unfold mLst; rw [e1]; rfl
theorem ev_andT (e1 : f ρ = .ok (.bl true) ρ1) (e2 : h ρ1 = rd) : mAndV f h ρ = rd := by unfold mAndV; rw [e1]; exact e2
theorem ev_andF (e1 : f ρ = .ok (.bl false) ρ1) : mAndV f h ρ = .ok (.bl false) ρ1 := by unfold mAndV; rw [e1]; rfl
theorem ev_orT (e1 : f ρ = .ok (.bl true) ρ1) : mOrV f h ρ = .ok (.bl true) ρ1 := by unfold mOrV; rw [e1]; rfl
theorem ev_orF (e1 : f ρ = .ok (.bl false) ρ1) (e2 : h ρ1 = rd) : mOrV f h ρ = rd := by unfold mOrV; rw [e1]; exact e2
theorem ev_notV (e1 : f ρ = .ok (.bl b) ρ1) : mNotV f ρ = .ok (.bl (!b)) ρ1 := by unfold mNotV; rw [e1]; rfl
theorem ev_ite (e1 : c ρ = .ok b ρ1) (e2 : (if b then f ρ1 else h ρ1) = rd) : mIf c f h ρ = rd := by unfold mIf; rw [e1]; exact e2
theorem ev_test (e1 : f ρ = .ok (.bl b) ρ1) : mTest f ρ = .ok b ρ1 := by unfold mTest; rw [e1]; rfl
theorem ev_not (e1 : c ρ = .ok b ρ1) : mNot c ρ = .ok (!b) ρ1 := by unfold mNot; rw [e1]; rfl
theorem ev_tandT (e1 : c ρ = .ok true ρ1) {rb : R Bool} (e2 : c2 ρ1 = rb) : mAnd c c2 ρ = rb := by unfold mAnd; rw [e1]; exact e2
theorem ev_tandF (e1 : c ρ = .ok false ρ1) : mAnd c c2 ρ = .ok false ρ1 := by unfold mAnd; rw [e1]; rfl
theorem ev_torT (e1 : c ρ = .ok true ρ1) : mOr c c2 ρ = .ok true ρ1 := by unfold mOr; rw [e1]; rfl
theorem ev_torF (e1 : c ρ = .ok false ρ1) {rb : R Bool} (e2 : c2 ρ1 = rb) : mOr c c2 ρ = rb := by unfold mOr; rw [e1]; exact e2
theorem ev_chainT (e1 : f ρ = .ok x ρ1) (e2 : h ρ1 = .ok y ρ2) (e3 : op x y = some (.bl true)) (e4 : k ρ2 = .ok z ρ3) (e5 : op' y z = some d) : mChain op op' f h k ρ = .ok d ρ3 := by unfold mChain; rw [e1]; dsimp only [R.bind]; rw [e2]; dsimp only; rw [e3]; dsimp only; rw [e4]; dsimp only; rw [e5]; rfl
theorem ev_chainF (e1 : f ρ = .ok x ρ1) (e2 : h ρ1 = .ok y ρ2) (e3 : op x y = some (.bl false)) : mChain op op' f h k ρ = .ok (.bl false) ρ2 := by unfold mChain; rw [e1]; dsimp only [R.bind]; rw [e2]; dsimp only; rw [e3]
/-! ### statements -/
theorem ev_seq (e1 : fs ρ = .ok .nx ρ1) (e2 : gs ρ1 = r) : mSeq fs gs ρ = r := by unfold mSeq; rw [e1]; exact e2
theorem ev_seqR (e1 : fs ρ = .ok (.rt d) ρ1) : mSeq fs gs ρ = .ok (.rt d) ρ1 := by unfold mSeq; rw [e1]
theorem ev_seqX {e : Ex} (e1 : fs ρ = .exn e ρ1) : mSeq fs gs ρ = .exn e ρ1 := by unfold mSeq; rw [e1]
theorem ev_nx : mNx ρ = .ok .nx ρ := rfl
theorem ev_ifT (e1 : c ρ = .ok true ρ1) (e2 : fs ρ1 = r) : mIfS c fs gs ρ = r := by unfold mIfS; rw [e1]; exact e2
theorem ev_ifF (e1 : c ρ = .ok false ρ1) (e2 : gs ρ1 = r) : mIfS c fs gs ρ = r := by unfold mIfS; rw [e1]; exact e2
theorem ev_if (e1 : c ρ = .ok b ρ1) (e2 : (if b then fs ρ1 else gs ρ1) = r) : mIfS c fs gs ρ = r := by unfold mIfS; rw [e1]; exact e2
theorem ev_ret (e1 : f ρ = .ok d ρ1) : mRet f ρ = .ok (.rt d) ρ1 := by unfold mRet; rw [e1]; rfl
theorem ev_drop (e1 : f ρ = .ok d ρ1) : mDrop f ρ = .ok .nx ρ1 := by unfold mDrop; rw [e1]; rfl
theorem ev_dropX {e : Ex} (e1 : f ρ = .exn e ρ1) : mDrop f ρ = .exn e ρ1 := by unfold mDrop; rw [e1]; rfl
theorem ev_set (e1 : f ρ = .ok d ρ1) (hi : decide (i < ρ1.length) = true) : mSet i f ρ = .ok .nx (ρ1.set i (some d)) := by unfold mSet; rw [e1]; dsimp only [R.bind]; rw [if_pos (of_decide_eq_true hi)]
theorem ev_setO (e1 : f ρ = .ok d ρ1) (hi : decide (i < ρ1.length) = true) (ho : isObj d = true) : mSetO i f ρ = .ok .nx (ρ1.set i (some d)) := by unfold mSetO; rw [e1]; dsimp only [R.bind]; rw [if_pos ⟨of_decide_eq_true hi, ho⟩]
theorem ev_asg (e1 : f ρ = .ok d ρ1) (e2 : gt d ρ1 = some ρ2) : mAsg f gt ρ = .ok .nx ρ2 := by unfold mAsg; rw [e1]; dsimp only [R.bind]; rw [e2]
theorem ev_gIx {ds0 : List D} {q : Int} (e0 : lstO (ρ.getD i none) = some ds0) (e1 : h ρ = .ok (.int q) ρ1) (e2 : lstO (ρ1.getD i none) = some ds) (e3 : ixN ds.length q = some n) : gIx i h d ρ = some (ρ1.set i (some (.lst (ds.set n d)))) := by unfold gIx; rw [e0, e1]; dsimp only; rw [e2]; dsimp only [Option.bind]; rw [e3]; rfl
theorem ev_gDk {ks0 ds0 ks : List D} {kd : D} {kk : Key} (e0 : ρ.getD i none = some (.dic ks0 ds0)) (e1 : h ρ = .ok kd ρ1) (e2 : ρ1.getD i none = some (.dic ks ds)) (e3 : toKey kd = some kk) (e4 : ks.all isKD = true ∧ ks.length < sizeLine) : gDk i h d ρ = some (ρ1.set i (some (.dic (dPut ks ds kd d).1 (dPut ks ds kd d).2))) := by unfold gDk; rw [e0, e1]; dsimp only; rw [e2, e3]; dsimp only; rw [if_pos e4]
theorem ev_call0 {outs : List D} (e1 : g ρ = .ok ds ρ1) (e2 : F ds = .ok d outs) : mCall0 F g ρ = .ok d ρ1 := by unfold mCall0; rw [e1]; dsimp only [R.bind]; rw [e2]; rfl
theorem ev_call0X {e : Ex} {outs : List D} (e1 : g ρ = .ok ds ρ1) (e2 : F ds = .exn e outs) : mCall0 F g ρ = .exn e ρ1 := by unfold mCall0; rw [e1]; dsimp only [R.bind]; rw [e2]; rfl
theorem ev_call1 {p : Nat} {c0 c1 : D} (e1 : g ρ = .ok ds ρ1) (e2 : ρ1.getD i none = some c0) (e3 : F (ds.set p c0) = .ok d [c1]) : mCall1 F p i g ρ = .ok d (ρ1.set i (some c1)) := by unfold mCall1; rw [e1]; dsimp only [R.bind]; rw [e2]; dsimp only; rw [e3]; rfl
theorem ev_lstM {step : List D → List D → Option (D × List D)} {ds0 : List D} {zz : D × List D} (e0 : lstO (ρ.getD i none) = some ds0) (e1 : g ρ = .ok es ρ1) (e2 : lstO (ρ1.getD i none) = some ds) (e3 : step ds es = some zz) : mLstM i step g ρ = .ok zz.1 (ρ1.set i (some (.lst zz.2))) := by unfold mLstM; rw [e0]; dsimp only; rw [e1]; dsimp only [R.bind]; rw [e2]; dsimp only; rw [e3]
theorem ev_strM {o : Str → List D → Option D} {s : Str} (e1 : f ρ = .ok (.str s) ρ1) (e2 : g ρ1 = .ok ds ρ2) (e3 : o s ds = some d) : mStrM o f g ρ = .ok d ρ2 := by unfold mStrM; rw [e1]; dsimp only [R.bind]; rw [e2]; dsimp only; rw [e3]; rfl
theorem ev_rt {io : List Nat} {outs : List D} (e1 : body (env0 n ds) = .ok (.rt d) ρ) (e2 : outsOf io ρ = outs) : fnSem n io body ds = .ok d outs := by subst e2; unfold fnSem; rw [e1]; rfl
theorem ev_fnx {io : List Nat} {outs : List D} (e1 : body (env0 n ds) = .ok .nx ρ) (e2 : outsOf io ρ = outs) : fnSem n io body ds = .ok .non outs := by subst e2; unfold fnSem; rw [e1]; rfl
theorem ev_fnX {io : List Nat} {outs : List D} {e : Ex} (e1 : body (env0 n ds) = .exn e ρ) (e2 : outsOf io ρ = outs) : fnSem n io body ds = .exn e outs := by subst e2; unfold fnSem; rw [e1]; rfl
theorem ev_for {it : Env → R (List D)} (e1 : it ρ = .ok ds ρ1) (e2 : forL (gBody gt body) ds ρ1 = r) : mFor it gt body ρ = r := by unfold mFor; rw [e1]; exact e2
/-- a loop that goes to its end -/
theorem forL_inv {step : D → Env → R Fl} (Inv : Nat → Env → Prop) (hs : ∀ i d ρ, ds[i]? = some d → Inv i ρ → ∃ ρ', (step d ρ = .ok .nx ρ' ∨ step d ρ = .ok .ct ρ') ∧ Inv (i + 1) ρ') (h0 : Inv 0 ρ) : ∃ ρ', forL step ds ρ = .ok .nx ρ' ∧ Inv ds.length ρ' := by
  have key : ∀ (m : Nat) (es : List D) (ρ : Env), es = ds.drop m → m ≤ ds.length → Inv m ρ → ∃ ρ', forL step es ρ = .ok .nx ρ' ∧ Inv ds.length ρ' := by
    intro m es
    induction es generalizing m with
    | nil =>
      intro ρ e hm hi
      have : ds.length ≤ m := by
        have := congrArg List.length e
        rw [List.length_drop] at this
        simp at this; omega
      rw [show ds.length = m by omega]
      exact ⟨ρ, rfl, hi⟩
    | cons d es ih =>
      intro ρ e hm hi
      have hd : ds[m]? = some d := by
        have := congrArg (fun l => l[0]?) e
        simp only [List.getElem?_drop] at this
        simpa using this.symm
      have hes : es = ds.drop (m + 1) := by
        have := congrArg List.tail e
        simpa [List.tail_drop] using this
      obtain ⟨ρ', hq, hi'⟩ := hs m d ρ hd hi
      have hml : m + 1 ≤ ds.length := (List.getElem?_eq_some_iff.mp hd).1
      obtain ⟨ρ2, e2, h2⟩ := ih (m + 1) ρ' hes hml hi'
      refine ⟨ρ2, ?_, h2⟩
      unfold forL
      rcases hq with hq | hq <;> rw [hq] <;> exact e2
  exact key 0 ds ρ (by simp) (Nat.zero_le _) h0
theorem ev_body (e1 : gt d ρ = some ρ1) (e2 : body ρ1 = r) : gBody gt body d ρ = r := by unfold gBody; rw [e1]; exact e2
theorem ev_gNm (hi : decide (i < ρ.length) = true) : gNm i d ρ = some (ρ.set i (some d)) := by unfold gNm; rw [if_pos (of_decide_eq_true hi)]
/-- a comprehension that takes all -/
theorem compL_inv {tst : Env → R Bool} {vs : List Nat} (Inv : Nat → Env → List D → Prop)
    (hs : ∀ i d ρ acc, ds[i]? = some d → Inv i ρ acc → acc.length ≤ i ∧ ∃ ρ1 ρ2 b, gt d ρ = some ρ1 ∧ tst ρ1 = .ok b ρ2 ∧ (b = true → ∃ y ρ3, f ρ2 = .ok y ρ3 ∧ Inv (i + 1) (wipeE ρ3 vs) (acc ++ [y])) ∧ (b = false → Inv (i + 1) (wipeE ρ2 vs) acc)) (hz : ds.length < sizeLine) (h0 : Inv 0 ρ []) :
    ∃ acc ρ', compL gt tst f vs ds ρ [] = .ok acc ρ' ∧ Inv ds.length ρ' acc := by
  have key : ∀ (es : List D) (m : Nat) (ρ : Env) (acc : List D), es = ds.drop m → m ≤ ds.length → Inv m ρ acc → ∃ acc' ρ', compL gt tst f vs es ρ acc = .ok acc' ρ' ∧ Inv ds.length ρ' acc' := by
    intro es
    induction es with
    | nil =>
      intro m ρ acc e hm hi
      have : ds.length ≤ m := by
        have := congrArg List.length e
        rw [List.length_drop] at this
        simp at this; omega
      rw [show ds.length = m by omega]
      exact ⟨acc, ρ, rfl, hi⟩
    | cons d es ih =>
      intro m ρ acc e hm hi
      have hd : ds[m]? = some d := by
        have := congrArg (fun l => l[0]?) e
        simp only [List.getElem?_drop] at this
        simpa using this.symm
      have hes : es = ds.drop (m + 1) := by
        have := congrArg List.tail e
        simpa [List.tail_drop] using this
      have hml : m + 1 ≤ ds.length := (List.getElem?_eq_some_iff.mp hd).1
      obtain ⟨hl, ρ1, ρ2, b, e1, e2, ht, hf⟩ := hs m d ρ acc hd hi
      unfold compL
      rw [e1]; dsimp only; rw [e2]
      cases b with
      | true =>
        obtain ⟨y, ρ3, e3, h3⟩ := ht rfl
        dsimp only; rw [e3]; dsimp only; rw [if_pos (by omega)]
        exact ih (m + 1) _ _ hes hml h3
      | false => exact ih (m + 1) _ _ hes hml (hf rfl)
  exact key ds 0 ρ [] (by simp) (Nat.zero_le _) h0
theorem ev_lc {fi : Env → R (List D)} {tst : Env → R Bool} {vs : List Nat} (e1 : fi ρ = .ok ds ρ1) (e2 : compL gt tst f vs ds (wipeE ρ1 vs) [] = .ok es ρ2) : mLc fi gt tst f vs ρ = .ok (.lst es) (restE ρ1 ρ2 vs) := by unfold mLc; rw [e1]; dsimp only [R.bind]; rw [e2]
theorem ev_yes : mYes ρ = .ok true ρ := rfl
end Ip
namespace Ip
open PySem L2
/-! ## the words' weakest conditions: symbolic execution, one goal at a time -/
def wpx {α : Type} (E : Ex → Env → Prop) (r : R α) (P : α → Env → Prop) : Prop := match r with
  | .ok a ρ => P a ρ
  | .exn e ρ => E e ρ
  | .bad => False
/-- no exception comes -/
abbrev noE : Ex → Env → Prop := fun _ _ => False
abbrev wp {α : Type} (r : R α) (P : α → Env → Prop) : Prop := wpx noE r P
def wo (o : Option D) (ρ : Env) (P : D → Env → Prop) : Prop := match o with
  | some d => P d ρ
  | none => False
/-- a def's answer -/
def wfx (E : Ex → List D → Prop) (r : FR) (P : D → List D → Prop) : Prop := match r with
  | .ok d outs => P d outs
  | .exn e outs => E e outs
  | .bad => False
abbrev noF : Ex → List D → Prop := fun _ _ => False
abbrev wf (r : FR) (P : D → List D → Prop) : Prop := wfx noF r P
theorem wp_of {α : Type} {r : R α} {P : α → Env → Prop} (h : wp r P) : ∃ a ρ, r = .ok a ρ ∧ P a ρ := by
  cases r with
  | ok a ρ => exact ⟨a, ρ, rfl, h⟩
  | exn e ρ => exact h.elim
  | bad => exact h.elim
theorem wf_of {r : FR} {P : D → List D → Prop} (h : wf r P) : ∃ d outs, r = .ok d outs ∧ P d outs := by
  cases r with
  | ok a ρ => exact ⟨a, ρ, rfl, h⟩
  | exn e ρ => exact h.elim
  | bad => exact h.elim
theorem wp_imp {α : Type} {E : Ex → Env → Prop} {r : R α} {P Q : α → Env → Prop} (h : wpx E r P) (i : ∀ a ρ, P a ρ → Q a ρ) : wpx E r Q := by
  cases r with
  | ok a ρ => exact i a ρ h
  | exn e ρ => exact h
  | bad => exact h.elim
theorem wp_impE {α : Type} {E E2 : Ex → Env → Prop} {r : R α} {P Q : α → Env → Prop} (h : wpx E r P) (i : ∀ a ρ, P a ρ → Q a ρ) (ie : ∀ e ρ, E e ρ → E2 e ρ) : wpx E2 r Q := by
  cases r with
  | ok a ρ => exact i a ρ h
  | exn e ρ => exact ie e ρ h
  | bad => exact h.elim
/-- what raises nothing may stand anywhere -/
theorem wp_noE {α : Type} {E : Ex → Env → Prop} {r : R α} {P : α → Env → Prop} (h : wp r P) : wpx E r P := wp_impE h (fun _ _ h => h) fun _ _ h => h.elim
theorem wf_imp {E : Ex → List D → Prop} {r : FR} {P Q : D → List D → Prop} (h : wfx E r P) (i : ∀ a ρ, P a ρ → Q a ρ) : wfx E r Q := by
  cases r with
  | ok a ρ => exact i a ρ h
  | exn e ρ => exact h
  | bad => exact h.elim
theorem wf_impE {E E2 : Ex → List D → Prop} {r : FR} {P Q : D → List D → Prop} (h : wfx E r P) (i : ∀ a ρ, P a ρ → Q a ρ) (ie : ∀ e ρ, E e ρ → E2 e ρ) : wfx E2 r Q := by
  cases r with
  | ok a ρ => exact i a ρ h
  | exn e ρ => exact ie e ρ h
  | bad => exact h.elim
theorem wp_bind {α β : Type} {E : Ex → Env → Prop} {r : R α} {k : α → Env → R β} {P : β → Env → Prop} (h : wpx E r fun a ρ => wpx E (k a ρ) P) : wpx E (r.bind k) P := by
  cases r with
  | ok a ρ => exact h
  | exn e ρ => exact h
  | bad => exact h.elim
section
variable {E : Ex → Env → Prop} {i j n : Nat} {ρ : Env} {d x y z : D} {f h k : Env → R D} {g : Env → R (List D)} {f2 : Env → R (D × D)} {op op' : D → D → Option D} {c c2 : Env → R Bool} {b : Bool} {fs gs body : Env → R Fl} {gt : D → Env → Option Env} {F : FSem} {P : D → Env → Prop} {PL : List D → Env → Prop} {PB : Bool → Env → Prop} {PS : Fl → Env → Prop} {P2 : D × D → Env → Prop}
theorem wo_ofO {o : Option D} (w : wo o ρ P) : wpx E (ofO ρ o) P := by cases o with | none => exact w.elim | some d => exact w
theorem w_c (w : P d ρ) : wpx E (mC d ρ) P := w
theorem w_var (e : ρ.getD i none = some d) (w : P d ρ) : wpx E (mVar i ρ) P := by unfold mVar; rw [e]; exact w
theorem w_pair (w : wpx E (f ρ) fun x ρ1 => wpx E (h ρ1) fun y ρ2 => P2 (x, y) ρ2) : wpx E (mPair f h ρ) P2 := wp_bind (wp_imp w fun x ρ1 w1 => wp_bind w1)
theorem w_pairO (w : wpx E (h ρ) fun y ρ2 => ∃ x, ρ2.getD i none = some x ∧ P2 (x, y) ρ2) : wpx E (mPairO i h ρ) P2 := wp_bind (wp_imp w fun y ρ2 ⟨x, e, w1⟩ => by rw [e]; exact w1)
theorem w_pairR (w : wpx E (f ρ) fun x ρ2 => ∃ y, ρ2.getD i none = some y ∧ P2 (x, y) ρ2) : wpx E (mPairR f i ρ) P2 := wp_bind (wp_imp w fun y ρ2 ⟨x, e, w1⟩ => by rw [e]; exact w1)
theorem w_m2 (w : wpx E (f2 ρ) fun p ρ2 => wo (op p.1 p.2) ρ2 P) : wpx E (m2 op f2 ρ) P := wp_bind (wp_imp w fun p ρ2 w1 => wo_ofO w1)
theorem w_un {o : D → Option D} (w : wpx E (f ρ) fun x ρ2 => wo (o x) ρ2 P) : wpx E (mUn o f ρ) P := wp_bind (wp_imp w fun p ρ2 w1 => wo_ofO w1)
theorem w_nil (w : PL [] ρ) : wpx E (mNil ρ) PL := w
theorem w_cons (w : wpx E (f ρ) fun x ρ1 => wpx E (g ρ1) fun ds ρ2 => PL (x :: ds) ρ2) : wpx E (mCons f g ρ) PL := wp_bind (wp_imp w fun x ρ1 w1 => wp_bind w1)
theorem w_own (w : wpx E (g ρ) fun ds ρ2 => ∃ x, ρ2.getD i none = some x ∧ PL (x :: ds) ρ2) : wpx E (mOwn i g ρ) PL := wp_bind (wp_imp w fun y ρ2 ⟨x, e, w1⟩ => by rw [e]; exact w1)
theorem w_io (w : wpx E (g ρ) fun ds ρ2 => PL (.non :: ds) ρ2) : wpx E (mIo g ρ) PL := wp_bind w
theorem w_arg {o : List D → Option D} (w : wpx E (g ρ) fun ds ρ2 => wo (o ds) ρ2 P) : wpx E (mArg o g ρ) P := wp_bind (wp_imp w fun p ρ2 w1 => wo_ofO w1)
theorem w_argI {o : List D → Option (List D)} (w : wpx E (g ρ) fun ds ρ2 => ∃ es, o ds = some es ∧ PL es ρ2) : wpx E (mArgI o g ρ) PL := wp_bind (wp_imp w fun p ρ2 ⟨es, e, w1⟩ => by rw [e]; exact w1)
theorem w_seqI (w : wpx E (f ρ) fun d ρ2 => ∃ es, asSeq d = some es ∧ PL es ρ2) : wpx E (mSeqI f ρ) PL := wp_bind (wp_imp w fun p ρ2 ⟨es, e, w1⟩ => by rw [e]; exact w1)
theorem w_tup (w : wpx E (g ρ) fun ds ρ2 => P (.tup ds) ρ2) : wpx E (mTup g ρ) P := wp_bind w
theorem w_lst (w : wpx E (g ρ) fun ds ρ2 => P (.lst ds) ρ2) : wpx E (mLst g ρ) P := wp_bind w
theorem w_and (w : wpx E (f ρ) fun d ρ1 => ∃ b, d = .bl b ∧ if b = true then wpx E (h ρ1) P else P (.bl false) ρ1) : wpx E (mAndV f h ρ) P := wp_bind (wp_imp w fun d ρ1 ⟨b, e, w1⟩ => by subst e; cases b with | true => exact w1 | false => exact w1)
theorem w_or (w : wpx E (f ρ) fun d ρ1 => ∃ b, d = .bl b ∧ if b = true then P (.bl true) ρ1 else wpx E (h ρ1) P) : wpx E (mOrV f h ρ) P := wp_bind (wp_imp w fun d ρ1 ⟨b, e, w1⟩ => by subst e; cases b with | true => exact w1 | false => exact w1)
theorem w_notV (w : wpx E (f ρ) fun d ρ1 => ∃ b, d = .bl b ∧ P (.bl (!b)) ρ1) : wpx E (mNotV f ρ) P := wp_bind (wp_imp w fun d ρ1 ⟨b, e, w1⟩ => by subst e; exact w1)
theorem w_ite (w : wpx E (c ρ) fun b ρ1 => if b = true then wpx E (f ρ1) P else wpx E (h ρ1) P) : wpx E (mIf c f h ρ) P := wp_bind (wp_imp w fun b ρ1 w1 => by cases b with | true => exact w1 | false => exact w1)
theorem w_test (w : wpx E (f ρ) fun d ρ1 => ∃ b, d = .bl b ∧ PB b ρ1) : wpx E (mTest f ρ) PB := wp_bind (wp_imp w fun d ρ1 ⟨b, e, w1⟩ => by subst e; exact w1)
theorem w_not (w : wpx E (c ρ) fun b ρ1 => PB (!b) ρ1) : wpx E (mNot c ρ) PB := wp_bind w
theorem w_tand (w : wpx E (c ρ) fun b ρ1 => if b = true then wpx E (c2 ρ1) PB else PB false ρ1) : wpx E (mAnd c c2 ρ) PB := wp_bind (wp_imp w fun b ρ1 w1 => by cases b with | true => exact w1 | false => exact w1)
theorem w_tor (w : wpx E (c ρ) fun b ρ1 => if b = true then PB true ρ1 else wpx E (c2 ρ1) PB) : wpx E (mOr c c2 ρ) PB := wp_bind (wp_imp w fun b ρ1 w1 => by cases b with | true => exact w1 | false => exact w1)
theorem w_chain (w : wpx E (f ρ) fun x ρ1 => wpx E (h ρ1) fun y ρ2 => ∃ b, op x y = some (.bl b) ∧ if b = true then wpx E (k ρ2) fun z ρ3 => wo (op' y z) ρ3 P else P (.bl false) ρ2) : wpx E (mChain op op' f h k ρ) P :=
  wp_bind (wp_imp w fun x ρ1 w1 => wp_bind (wp_imp w1 fun y ρ2 ⟨b, e, w2⟩ => by
    rw [e]
    cases b with
    | true => exact wp_bind (wp_imp w2 fun z ρ3 w3 => wo_ofO w3)
    | false => exact w2))
theorem w_call0 (w : wpx E (g ρ) fun ds ρ1 => wfx (fun e _ => E e ρ1) (F ds) fun d _ => P d ρ1) : wpx E (mCall0 F g ρ) P := wp_bind (wp_imp w fun ds ρ1 w1 => by
  cases q : F ds <;> rw [q] at w1 <;> exact w1)
theorem w_call1 {p : Nat} (w : wpx E (g ρ) fun ds ρ1 => ∃ c0, ρ1.getD i none = some c0 ∧ wfx (fun e outs => ∃ c1, outs = [c1] ∧ E e (ρ1.set i (some c1))) (F (ds.set p c0)) fun d outs => ∃ c1, outs = [c1] ∧ P d (ρ1.set i (some c1))) : wpx E (mCall1 F p i g ρ) P := wp_bind (wp_imp w fun ds ρ1 ⟨c0, e0, w1⟩ => by
  rw [e0]; dsimp only
  cases q : F (ds.set p c0) <;> rw [q] at w1
  · obtain ⟨c1, rfl, w2⟩ := w1; exact w2
  · obtain ⟨c1, rfl, w2⟩ := w1; exact w2
  · exact w1)
theorem w_lstM {step : List D → List D → Option (D × List D)} (w : ∃ ds0, lstO (ρ.getD i none) = some ds0 ∧ wpx E (g ρ) fun es ρ1 => ∃ ds, lstO (ρ1.getD i none) = some ds ∧ ∃ z, step ds es = some z ∧ P z.1 (ρ1.set i (some (.lst z.2)))) : wpx E (mLstM i step g ρ) P := by
  obtain ⟨ds0, e0, w⟩ := w
  unfold mLstM
  rw [e0]
  exact wp_bind (wp_imp w fun es ρ1 ⟨ds, e1, z, e2, w1⟩ => by rw [e1]; dsimp only; rw [e2]; exact w1)
theorem w_strM {o : Str → List D → Option D} (w : wpx E (f ρ) fun d ρ1 => ∃ s, d = .str s ∧ wpx E (g ρ1) fun ds ρ2 => wo (o s ds) ρ2 P) : wpx E (mStrM o f g ρ) P := wp_bind (wp_imp w fun d ρ1 ⟨s, e, w1⟩ => by subst e; exact wp_bind (wp_imp w1 fun ds ρ2 w2 => wo_ofO w2))
theorem w_slice {l u : Env → R (Option Int)} (w : wpx E (f ρ) fun d ρ1 => ∃ s, d = .str s ∧ wpx E (l ρ1) fun lo ρ2 => wpx E (u ρ2) fun hi ρ3 => s.length ≤ sizeLine ∧ P (.str (cutS s lo hi)) ρ3) : wpx E (mSlice f l u ρ) P := wp_bind (wp_imp w fun d ρ1 ⟨s, e, w1⟩ => by
  subst e
  exact wp_bind (wp_imp w1 fun lo ρ2 w2 => wp_bind (wp_imp w2 fun hi ρ3 ⟨h, w3⟩ => wo_ofO (by unfold ifO; rw [if_pos h]; exact w3))))
theorem w_oN {PO : Option Int → Env → Prop} (w : PO none ρ) : wpx E (mONone ρ) PO := w
theorem w_oS {PO : Option Int → Env → Prop} (w : wpx E (f ρ) fun d ρ1 => ∃ q, d = .int q ∧ PO (some q) ρ1) : wpx E (mOSome f ρ) PO := wp_bind (wp_imp w fun d ρ1 ⟨q, e, w1⟩ => by subst e; exact w1)
/-! ### statements: PS tells of the flow -/
def wsq (E : Ex → Env → Prop) (gs : Env → R Fl) (PS : Fl → Env → Prop) : Fl → Env → Prop
  | .nx, ρ => wpx E (gs ρ) PS
  | o, ρ => PS o ρ
theorem q_nx (w : wpx E (gs ρ) PS) : wsq E gs PS .nx ρ := w
theorem q_rt (w : PS (.rt d) ρ) : wsq E gs PS (.rt d) ρ := w
theorem q_bk (w : PS .bk ρ) : wsq E gs PS .bk ρ := w
theorem q_ct (w : PS .ct ρ) : wsq E gs PS .ct ρ := w
def wfe (io : List Nat) (PF : D → List D → Prop) : Fl → Env → Prop
  | .rt d, ρ => PF d (outsOf io ρ)
  | .nx, ρ => PF .non (outsOf io ρ)
  | _, _ => False
theorem e_rt {io : List Nat} {PF : D → List D → Prop} (w : PF d (outsOf io ρ)) : wfe io PF (.rt d) ρ := w
theorem e_nx {io : List Nat} {PF : D → List D → Prop} (w : PF .non (outsOf io ρ)) : wfe io PF .nx ρ := w
theorem i_t {A B : Prop} (w : A) : if true = true then A else B := w
theorem i_f {A B : Prop} (w : B) : if false = true then A else B := w
theorem i_nt {A B : Prop} (w : B) : if (!true) = true then A else B := w
theorem i_nf {A B : Prop} (w : A) : if (!false) = true then A else B := w
theorem w_seq (w : wpx E (fs ρ) (wsq E gs PS)) : wpx E (mSeq fs gs ρ) PS := by
  unfold mSeq
  cases q : fs ρ with
  | ok fl ρ1 => rw [q] at w; cases fl <;> exact w
  | exn e ρ1 => rw [q] at w; exact w
  | bad => rw [q] at w; exact w.elim
theorem w_nx (w : PS .nx ρ) : wpx E (mNx ρ) PS := w
theorem w_if (w : wpx E (c ρ) fun b ρ1 => if b = true then wpx E (fs ρ1) PS else wpx E (gs ρ1) PS) : wpx E (mIfS c fs gs ρ) PS := wp_bind (wp_imp w fun b ρ1 w1 => by cases b with | true => exact w1 | false => exact w1)
theorem w_ret (w : wpx E (f ρ) fun d ρ1 => PS (.rt d) ρ1) : wpx E (mRet f ρ) PS := wp_bind w
theorem w_drop (w : wpx E (f ρ) fun d ρ1 => PS .nx ρ1) : wpx E (mDrop f ρ) PS := wp_bind w
theorem w_set (w : wpx E (f ρ) fun d ρ1 => decide (i < ρ1.length) = true ∧ PS .nx (ρ1.set i (some d))) : wpx E (mSet i f ρ) PS := wp_bind (wp_imp w fun d ρ1 ⟨e, w1⟩ => by rw [if_pos (of_decide_eq_true e)]; exact w1)
theorem w_setO (w : wpx E (f ρ) fun d ρ1 => decide (i < ρ1.length) = true ∧ isObj d = true ∧ PS .nx (ρ1.set i (some d))) : wpx E (mSetO i f ρ) PS := wp_bind (wp_imp w fun d ρ1 ⟨e, e2, w1⟩ => by rw [if_pos ⟨of_decide_eq_true e, e2⟩]; exact w1)
theorem w_asg (w : wpx E (f ρ) fun d ρ1 => ∃ ρ2, gt d ρ1 = some ρ2 ∧ PS .nx ρ2) : wpx E (mAsg f gt ρ) PS := wp_bind (wp_imp w fun d ρ1 ⟨ρ2, e, w1⟩ => by rw [e]; exact w1)
theorem w_gIx {v : D} {Q : Env → Prop} (w : ∃ ds0, lstO (ρ.getD i none) = some ds0 ∧ wp (h ρ) fun kd ρ1 => ∃ q ds n, kd = .int q ∧ lstO (ρ1.getD i none) = some ds ∧ ixN ds.length q = some n ∧ Q (ρ1.set i (some (.lst (ds.set n v))))) : ∃ ρ2, gIx i h v ρ = some ρ2 ∧ Q ρ2 := by
  obtain ⟨ds0, e0, w⟩ := w
  obtain ⟨kd, ρ1, e1, q, ds, n, rfl, e2, e3, w1⟩ := wp_of w
  exact ⟨_, ev_gIx e0 e1 e2 e3, w1⟩
theorem w_fn {EF : Ex → List D → Prop} {io : List Nat} {ds : List D} {PF : D → List D → Prop} (w : wpx (fun e ρ => EF e (outsOf io ρ)) (body (env0 n ds)) (wfe io PF)) : wfx EF (fnSem n io body ds) PF := by
  unfold fnSem
  cases q : body (env0 n ds) with
  | ok fl ρ1 => rw [q] at w; cases fl <;> first | exact w | exact w.elim
  | exn e ρ1 => rw [q] at w; exact w
  | bad => rw [q] at w; exact w.elim
theorem w_for {it : Env → R (List D)} (w : wpx E (it ρ) fun ds ρ1 => wpx E (forL (gBody gt body) ds ρ1) PS) : wpx E (mFor it gt body ρ) PS := wp_bind w
/-- a loop: each turn goes on, or ends it -/
theorem forL_run {step : D → Env → R Fl} {ds : List D} (Inv : Nat → Env → Prop) (hs : ∀ i d ρ, ds[i]? = some d → Inv i ρ → wpx E (step d ρ) fun fl ρ' => ((fl = .nx ∨ fl = .ct) ∧ Inv (i + 1) ρ') ∨ (fl = .bk ∧ PS .nx ρ') ∨ ∃ d, fl = .rt d ∧ PS (.rt d) ρ') (h0 : Inv 0 ρ) (hd : ∀ ρ, Inv ds.length ρ → PS .nx ρ) : wpx E (forL step ds ρ) PS := by
  have key : ∀ (es : List D) (m : Nat) (ρ : Env), es = ds.drop m → m ≤ ds.length → Inv m ρ → wpx E (forL step es ρ) PS := by
    intro es
    induction es with
    | nil =>
      intro m ρ e hm hi
      have : ds.length ≤ m := by
        have := congrArg List.length e
        rw [List.length_drop] at this
        simp at this; omega
      have hm' : m = ds.length := by omega
      exact hd ρ (hm' ▸ hi)
    | cons d es ih =>
      intro m ρ e hm hi
      have hdm : ds[m]? = some d := by
        have := congrArg (fun l => l[0]?) e
        simp only [List.getElem?_drop] at this
        simpa using this.symm
      have hes : es = ds.drop (m + 1) := by
        have := congrArg List.tail e
        simpa [List.tail_drop] using this
      have hml : m + 1 ≤ ds.length := (List.getElem?_eq_some_iff.mp hdm).1
      have w := hs m d ρ hdm hi
      unfold forL
      cases q : step d ρ with
      | bad => rw [q] at w; exact w.elim
      | exn e1 ρ' => rw [q] at w; exact w
      | ok fl ρ' =>
        rw [q] at w
        rcases w with ⟨rfl | rfl, h⟩ | ⟨rfl, h⟩ | ⟨q, rfl, h⟩
        · exact ih (m + 1) ρ' hes hml h
        · exact ih (m + 1) ρ' hes hml h
        · exact h
        · exact h
  exact key ds 0 ρ (by simp) (Nat.zero_le _) h0
theorem w_run {ds : List D} (Inv : Nat → Env → Prop) (h0 : Inv 0 ρ) (hs : ∀ i d ρ, ds[i]? = some d → Inv i ρ → ∃ ρ1, gt d ρ = some ρ1 ∧ wpx E (body ρ1) fun fl ρ2 => ((fl = .nx ∨ fl = .ct) ∧ Inv (i + 1) ρ2) ∨ (fl = .bk ∧ PS .nx ρ2) ∨ ∃ d, fl = .rt d ∧ PS (.rt d) ρ2) (hd : ∀ ρ, Inv ds.length ρ → PS .nx ρ) : wpx E (forL (gBody gt body) ds ρ) PS :=
  forL_run Inv (fun i d ρ hd hi => by
    obtain ⟨ρ1, e1, w⟩ := hs i d ρ hd hi
    unfold gBody
    rw [e1]
    exact w) h0 hd
theorem w_loop {ds : List D} (Inv : Nat → Env → Prop) (h0 : Inv 0 ρ) (hs : ∀ i d ρ, ds[i]? = some d → Inv i ρ → ∃ ρ1, gt d ρ = some ρ1 ∧ wpx E (body ρ1) fun fl ρ2 => (fl = .nx ∨ fl = .ct) ∧ Inv (i + 1) ρ2) (hd : ∀ ρ, Inv ds.length ρ → PS .nx ρ) : wpx E (forL (gBody gt body) ds ρ) PS :=
  w_run Inv h0 (fun i d ρ hd hi => by
    obtain ⟨ρ1, e1, w⟩ := hs i d ρ hd hi
    exact ⟨ρ1, e1, wp_imp w fun _ _ h => .inl h⟩) hd
/-- a loop of checks that all hold: the frame is kept, but for what the loop itself names -/
theorem w_all {ds : List D} {α : Type} (f : α → Env) (a : α) (e : ρ = f a) (hs : ∀ d a, d ∈ ds → ∃ ρ1, gt d (f a) = some ρ1 ∧ wpx E (body ρ1) fun fl ρ2 => (fl = .nx ∨ fl = .ct) ∧ ∃ a, ρ2 = f a) (hd : ∀ a, PS .nx (f a)) : wpx E (forL (gBody gt body) ds ρ) PS :=
  w_loop (fun _ ρ => ∃ a, ρ = f a) ⟨a, e⟩ (fun i d ρ hi ⟨a, ea⟩ => by rw [ea]; exact hs d a (List.mem_of_getElem? hi)) (fun ρ ⟨a, ea⟩ => by rw [ea]; exact hd a)
theorem w_lc {fi : Env → R (List D)} {tst : Env → R Bool} {vs : List Nat} (w : wpx E (fi ρ) fun ds ρ1 => ds.length < sizeLine ∧ ∃ Inv : Nat → Env → List D → Prop, Inv 0 (wipeE ρ1 vs) [] ∧
    (∀ i d ρ acc, ds[i]? = some d → Inv i ρ acc → acc.length ≤ i ∧ ∃ ρa, gt d ρ = some ρa ∧ wp (tst ρa) fun b ρb => if b = true then wp (f ρb) fun y ρc => Inv (i + 1) (wipeE ρc vs) (acc ++ [y]) else Inv (i + 1) (wipeE ρb vs) acc) ∧
    ∀ ρ2 acc, Inv ds.length ρ2 acc → P (.lst acc) (restE ρ1 ρ2 vs)) : wpx E (mLc fi gt tst f vs ρ) P := wp_bind (wp_imp w fun ds ρ1 ⟨hz, Iv, h0, hs, hd⟩ => by
  obtain ⟨acc, ρ2, e, hi⟩ := compL_inv (gt := gt) (tst := tst) (f := f) (vs := vs) Iv (fun i d ρ acc hd' hi => by
    obtain ⟨hl, ρa, e1, w⟩ := hs i d ρ acc hd' hi
    obtain ⟨b, ρb, e2, w2⟩ := wp_of w
    refine ⟨hl, ρa, ρb, b, e1, e2, fun hb => ?_, fun hb => ?_⟩
    · subst hb
      rw [if_pos rfl] at w2
      obtain ⟨y, ρc, e3, w3⟩ := wp_of w2
      exact ⟨y, ρc, e3, w3⟩
    · subst hb
      rw [if_neg Bool.false_ne_true] at w2
      exact w2) hz h0
  rw [e]
  exact hd ρ2 acc hi)
theorem w_yes (w : PB true ρ) : wpx E (mYes ρ) PB := w
/-! ### operators -/
theorem o_some {o : Option D} (e : o = some d) (w : P d ρ) : wo o ρ P := by rw [e]; exact w
theorem o_add {a b : Int} (w : P (.int (a + b)) ρ) : wo (addD (.int a) (.int b)) ρ P := w
theorem o_sub {a b : Int} (w : P (.int (a - b)) ρ) : wo (subD (.int a) (.int b)) ρ P := w
theorem o_cat {a b : Str} (hl : a.length + b.length ≤ sizeLine) (w : P (.str (a ++ b)) ρ) : wo (addD (.str a) (.str b)) ρ P := o_some (show (if _ then _ else none) = _ from if_pos hl) w
theorem o_mulR {a b : Int} (hb : -(2 ^ 64) < b ∧ b < 2 ^ 64) (w : P (.int (a * b)) ρ) : wo (mulD (.int a) (.int b)) ρ P := o_some (show (if _ then _ else none) = _ from if_pos (.inl hb)) w
theorem o_mulL {a b : Int} (hb : -(2 ^ 64) < a ∧ a < 2 ^ 64) (w : P (.int (a * b)) ρ) : wo (mulD (.int a) (.int b)) ρ P := o_some (show (if _ then _ else none) = _ from if_pos (.inr (.inl hb))) w
theorem o_mod {a b : Int} (hb : 0 < b) (w : P (.int (a % b)) ρ) : wo (modD (.int a) (.int b)) ρ P := o_some (show (if _ then _ else none) = _ from if_pos hb) w
theorem o_div {a b : Int} (hb : 0 < b) (hl : b.natAbs.log2 < 9000) (w : P (.int (a / b)) ρ) : wo (fdivD (.int a) (.int b)) ρ P := o_some (show (if _ then _ else none) = _ from if_pos ⟨hb, hl⟩) w
theorem o_pow {a b : Int} (hb : 0 ≤ b ∧ b ≤ 1000000 ∧ a.natAbs < 2 ^ 64) (w : P (.int (a ^ b.toNat)) ρ) : wo (powD (.int a) (.int b)) ρ P := o_some (show (if _ then _ else none) = _ from if_pos hb) w
theorem o_lt {a b : Int} (w : P (.bl (decide (a < b))) ρ) : wo (ltD (.int a) (.int b)) ρ P := w
theorem o_le {a b : Int} (w : P (.bl (decide (a ≤ b))) ρ) : wo (leD (.int a) (.int b)) ρ P := w
theorem o_gt {a b : Int} (w : P (.bl (decide (b < a))) ρ) : wo (gtD (.int a) (.int b)) ρ P := w
theorem o_ge {a b : Int} (w : P (.bl (decide (b ≤ a))) ρ) : wo (geD (.int a) (.int b)) ρ P := w
theorem o_int {a : Int} (w : P (.int a) ρ) : wo (oInt [.int a]) ρ P := w
theorem o_abs {a : Int} (w : P (.int (if a < 0 then -a else a)) ρ) : wo (oAbs [.int a]) ρ P := w
theorem o_lenS {s : Str} (hl : s.length ≤ sizeLine) (w : P (.int s.length) ρ) : wo (oLen [.str s]) ρ P := o_some (show (if _ then _ else none) = _ from if_pos hl) w
theorem o_lenL {ds : List D} (w : P (.int ds.length) ρ) : wo (oLen [.lst ds]) ρ P := w
theorem o_lenT {ds : List D} (w : P (.int ds.length) ρ) : wo (oLen [.tup ds]) ρ P := w
theorem o_ixL {ds : List D} {q : Int} (e : atI ds q = some d) (w : P d ρ) : wo (ixD (.lst ds) (.int q)) ρ P := o_some (show atI ds q = _ from e) w
theorem o_ixT {ds : List D} {q : Int} (e : atI ds q = some d) (w : P d ρ) : wo (ixD (.tup ds) (.int q)) ρ P := o_some (show atI ds q = _ from e) w
theorem r_1 {PL : List D → Env → Prop} {q : Int} (hb : -(2 ^ 62) ≤ q ∧ q < 2 ^ 62) (w : PL ((List.range q.toNat).map fun i => .int (i : Nat)) ρ) : ∃ es, asR1 [.int q] = some es ∧ PL es ρ := ⟨_, if_pos hb, w⟩
theorem r_2 {PL : List D → Env → Prop} {a b : Int} (hb : -(2 ^ 62) ≤ a ∧ a < 2 ^ 62 ∧ -(2 ^ 62) ≤ b ∧ b < 2 ^ 62) (w : PL ((List.range (b - a).toNat).map fun i => .int (a + (i : Nat))) ρ) : ∃ es, asR2 [.int a, .int b] = some es ∧ PL es ρ := ⟨_, if_pos hb, w⟩
theorem o_isi {T : String} {t : String} (e : tyD d = some t) (w : P (.bl (subT t T)) ρ) : wo (isiD T d) ρ P := o_some (show (tyD d).map _ = _ by rw [e]; rfl) w
end
end Ip
namespace Ip
open PySem L2
section
variable {i j n : Nat} {ρ : Env} {d x y z : D}
theorem x_bl {b : Bool} {Q : Bool → Prop} (w : Q b) : ∃ c, D.bl b = .bl c ∧ Q c := ⟨b, rfl, w⟩
theorem x_int {q : Int} {Q : Int → Prop} (w : Q q) : ∃ c, D.int q = .int c ∧ Q c := ⟨q, rfl, w⟩
theorem x_str {s : Str} {Q : Str → Prop} (w : Q s) : ∃ c, D.str s = .str c ∧ Q c := ⟨s, rfl, w⟩
theorem x_sqL {ds : List D} {Q : List D → Prop} (w : Q ds) : ∃ es, asSeq (.lst ds) = some es ∧ Q es := ⟨ds, rfl, w⟩
theorem x_sqT {ds : List D} {Q : List D → Prop} (w : Q ds) : ∃ es, asSeq (.tup ds) = some es ∧ Q es := ⟨ds, rfl, w⟩
theorem x_env {Q : D → Prop} (e : ρ.getD i none = some d) (w : Q d) : ∃ x, ρ.getD i none = some x ∧ Q x := ⟨d, e, w⟩
theorem x_lst {ds : List D} {Q : List D → Prop} (e : ρ.getD i none = some (.lst ds)) (w : Q ds) : ∃ es, lstO (ρ.getD i none) = some es ∧ Q es := ⟨ds, by rw [e]; rfl, w⟩
theorem x_out {Q : D → Prop} (w : Q d) : ∃ c1, [d] = [c1] ∧ Q c1 := ⟨d, rfl, w⟩
theorem x_some {α : Type} {a : α} {Q : α → Prop} (w : Q a) : ∃ c1, some a = some c1 ∧ Q c1 := ⟨a, rfl, w⟩
theorem x_slot {Q : Prop} (e : i < ρ.length) (w : Q) : decide (i < ρ.length) = true ∧ Q := ⟨decide_eq_true e, w⟩
theorem x_objL {ds : List D} {Q : Prop} (w : Q) : isObj (.lst ds) = true ∧ Q := ⟨rfl, w⟩
theorem x_objI {c : Str} {ns : List Str} {ds : List D} {Q : Prop} (w : Q) : isObj (.obj c ns ds) = true ∧ Q := ⟨rfl, w⟩
theorem x_nm {d : D} {Q : Env → Prop} (e : i < ρ.length) (w : Q (ρ.set i (some d))) : ∃ ρ1, gNm i d ρ = some ρ1 ∧ Q ρ1 := ⟨_, if_pos e, w⟩
theorem fl_nx {Q : Prop} (w : Q) : (Fl.nx = .nx ∨ Fl.nx = .ct) ∧ Q := ⟨.inl rfl, w⟩
theorem fl_ct {Q : Prop} (w : Q) : (Fl.ct = .nx ∨ Fl.ct = .ct) ∧ Q := ⟨.inr rfl, w⟩
/-- a call of a def whose answer is known by a lemma -/
theorem f_use {EF : Ex → List D → Prop} {F : FSem} {ds : List D} {P Q : D → List D → Prop} (h : wf (F ds) P) (w : ∀ d outs, P d outs → Q d outs) : wfx EF (F ds) Q := wf_impE h w fun _ _ h => h.elim
theorem x_r1 {Q : List D → Prop} {q : Int} (hb : -(2 ^ 62) ≤ q ∧ q < 2 ^ 62) (w : Q ((List.range q.toNat).map fun i => .int (i : Nat))) : ∃ es, asR1 [.int q] = some es ∧ Q es := ⟨_, if_pos hb, w⟩
theorem x_r2 {Q : List D → Prop} {a b : Int} (hb : -(2 ^ 62) ≤ a ∧ a < 2 ^ 62 ∧ -(2 ^ 62) ≤ b ∧ b < 2 ^ 62) (w : Q ((List.range (b - a).toNat).map fun i => .int (a + (i : Nat)))) : ∃ es, asR2 [.int a, .int b] = some es ∧ Q es := ⟨_, if_pos hb, w⟩
end
end Ip
namespace Ip
open PySem L2
section
variable {X : Cx} {C : Ac} {W : WX} {Γ Γ1 : List Nat} {fr : Bool} {a : Expr} {f : Env → R D} {pos p2 p3 : Pos}
/-- xs[:n] of a list, n written in the text: a new list -/
def mCutL (n : Nat) (f : Env → R D) : Env → R D := fun ρ => (f ρ).bind fun d ρ1 => match d with
  | .lst ds => .ok (.lst (ds.take n)) ρ1
  | _ => .bad
theorem cutV_first (xs : List V) (n : Nat) : cutV xs none (some (n : Int)) = xs.take n := by
  unfold cutV
  rw [HT.sIx_none, HT.sIx_nat, List.drop_zero, Nat.sub_zero]
  rcases Nat.le_total n xs.length with h | h
  · rw [Nat.min_eq_left h]
  · rw [Nat.min_eq_right h, List.take_length, List.take_of_length_le h]
theorem se_cutL {n j : Nat} (ha : SE X C W Γ a Γ1 fr f) : SE X C W Γ (.Subscript a (.Slice none (some (.Constant (.int (n : Int)) j p3)) none p2) pos) Γ1 true (mCutL n f) := ⟨peImp (pe_slice sl_list ha.pe po_none (po_some pe_int)) fun σ H Q ⟨hid, ρ, S, p⟩ => by
  refine ⟨hid, ρ, S, ?_⟩
  unfold mCutL at p
  cases q : f ρ with
  | bad => rw [q] at p; exact p
  | exn e ρ' => rw [q] at p; exact p
  | ok d ρ1 =>
    rw [q] at p
    dsimp only [R.bind] at p
    intro v H1 tm S1 k1 va t1
    cases d with
    | lst ds =>
      have s := va.shal0
      cases s with
      | lst h r =>
        refine ⟨_, rfl, _, _, rfl, h, fun q hq => ?_⟩
        rw [cutV_first]
        exact fin_fr p S.sub S1 k1 q _ hq (.lst upd_same (r.take n))
    | _ => exact (show False from p).elim⟩
end
end Ip
namespace Ip
open PySem L2
section
variable {E : Ex → Env → Prop} {i j n : Nat} {ρ : Env} {d x y z : D} {f h : Env → R D} {g : Env → R (List D)} {gt : D → Env → Option Env} {fs body : Env → R Fl} {PS : Fl → Env → Prop} {P : D → Env → Prop} {PL : List D → Env → Prop} {F : FSem}
/-- a comprehension without a test, its items told one by one -/
theorem w_map {fi : Env → R (List D)} {f : Env → R D} {vs : List Nat} (w : wpx E (fi ρ) fun ds ρ1 => ds.length < sizeLine ∧ ∃ (g : D → D), (∀ d, d ∈ ds → ∃ ρa, gt d (wipeE ρ1 vs) = some ρa ∧ wp (f ρa) fun y ρb => y = g d ∧ wipeE ρb vs = wipeE ρ1 vs) ∧ P (.lst (ds.map g)) (restE ρ1 (wipeE ρ1 vs) vs)) : wpx E (mLc fi gt mYes f vs ρ) P := w_lc (wp_imp w fun ds ρ1 ⟨hz, g, hs, hp⟩ => by
  refine ⟨hz, fun i ρ acc => ρ = wipeE ρ1 vs ∧ acc = (ds.take i).map g, ⟨rfl, rfl⟩, fun i d ρ acc hd hi => ?_, fun ρ2 acc hi => ?_⟩
  · obtain ⟨rfl, rfl⟩ := hi
    obtain ⟨ρa, e1, w⟩ := hs d (List.mem_of_getElem? hd)
    refine ⟨by rw [List.length_map, List.length_take]; omega, ρa, e1, w_yes ?_⟩
    rw [if_pos rfl]
    refine wp_imp w fun y ρb ⟨e2, e3⟩ => ⟨e3, ?_⟩
    rw [List.take_succ, hd, List.map_append, e2]
    rfl
  · obtain ⟨rfl, rfl⟩ := hi
    rw [List.take_length]
    exact hp)
/-! ### words not told before -/
theorem w_cutL {n : Nat} (w : wpx E (f ρ) fun d ρ1 => ∃ ds, d = .lst ds ∧ P (.lst (ds.take n)) ρ1) : wpx E (mCutL n f ρ) P := wp_bind (wp_imp w fun d ρ1 ⟨ds, e, w1⟩ => by subst e; exact w1)
theorem w_enumS (w : wpx E (f ρ) fun d ρ1 => ∃ s : Str, d = .str s ∧ PL (enumL 0 (s.cps.toList.map chD)) ρ1) : wpx E (mEnumS f ρ) PL := wp_bind (wp_imp w fun d ρ1 ⟨s, e, w1⟩ => by subst e; exact w1)
theorem w_fld {cs : List Str} {nm : Str} (w : wpx E (f ρ) fun o ρ1 => ∃ c, clsOf o = some c ∧ cs.contains c = true ∧ wo (fldD nm o) ρ1 P) : wpx E (mFld cs nm f ρ) P := wp_bind (wp_imp w fun d ρ1 ⟨c, e1, e2, w1⟩ => by rw [e1]; dsimp only; rw [if_pos e2]; exact wo_ofO w1)
theorem w_fldS {cn fn : Str} (w : wpx E (h ρ) fun d ρ1 => ∃ c ns ds, ρ1.getD i none = some (.obj c ns ds) ∧ (c = cn ∧ ns.length < 1000) ∧ PS .nx (ρ1.set i (some (.obj c (putD fn d ns ds).1 (putD fn d ns ds).2)))) : wpx E (mFldS i cn fn h ρ) PS := wp_bind (wp_imp w fun d ρ1 ⟨c, ns, ds, e1, e2, w1⟩ => by rw [e1]; dsimp only; rw [if_pos e2]; exact w1)
theorem w_make {c : Str} (w : wpx E (g ρ) fun ds ρ1 => wfx (fun e _ => E e ρ1) (F (.obj c [] [] :: ds)) fun d outs => ∃ o, d = .non ∧ outs = [o] ∧ P o ρ1) : wpx E (mMake c F g ρ) P := wp_bind (wp_imp w fun ds ρ1 w1 => by
  cases q : F (.obj c [] [] :: ds) <;> rw [q] at w1
  · obtain ⟨o, rfl, rfl, w2⟩ := w1; exact w2
  · exact w1
  · exact w1)
theorem w_meth {cs : List Str} {m : Str} (w : wpx E (f ρ) fun o ρ1 => ∃ c, clsOf o = some c ∧ (cs.contains c = true ∧ hasNo m o = true) ∧ wpx E (g ρ1) fun ds ρ2 => wfx (fun e _ => E e ρ2) (F (o :: ds)) fun d _ => P d ρ2) : wpx E (mMeth cs m F f g ρ) P := wp_bind (wp_imp w fun o ρ1 ⟨c, e1, e2, w1⟩ => by
  rw [e1]; dsimp only; rw [if_pos e2]
  exact wp_bind (wp_imp w1 fun ds ρ2 w2 => by
    cases q : F (o :: ds) <;> rw [q] at w2 <;> exact w2))
theorem w_raise {c : Str} (w : E ⟨c, none⟩ ρ) : wpx E (mRaise c ρ) PS := w
theorem w_try {cn : Str} {i j : Nat} {d : D} (w : wpx (fun e ρ1 => (e.cls = cn ∧ e.fld.isNone = true ∧ j < ρ1.length ∧ i < ρ1.length) ∧ PS .nx ((ρ1.set j (some d)).set i none)) (fs ρ) fun fl ρ1 => fl = .nx ∧ PS .nx ρ1) : wpx E (mTry cn i j d fs ρ) PS := by
  unfold mTry
  cases q : fs ρ with
  | ok fl ρ1 =>
    rw [q] at w
    obtain ⟨rfl, w1⟩ := w
    exact w1
  | exn e ρ1 =>
    rw [q] at w
    dsimp only
    rw [if_pos w.1]
    exact w.2
  | bad => rw [q] at w; exact w.elim
/-! ### data -/
theorem x_isL {ds : List D} {Q : List D → Prop} (w : Q ds) : ∃ es, D.lst ds = .lst es ∧ Q es := ⟨ds, rfl, w⟩
theorem x_objD {a b : List D} {Q : Prop} (w : Q) : isObj (.dic a b) = true ∧ Q := ⟨rfl, w⟩
theorem x_app {ds : List D} {d : D} {Q : D × List D → Prop} (h : ds.length < 2 ^ 24) (w : Q (.non, ds ++ [d])) : ∃ z, stAppend ds [d] = some z ∧ Q z := ⟨_, if_pos h, w⟩
theorem wp_env {α : Type} {f : Env → R α} {ρ ρ' : Env} {P : α → Env → Prop} (e : ρ = ρ') (w : wpx E (f ρ') P) : wpx E (f ρ) P := e ▸ w
theorem x_cls {c c' : Str} {ns : List Str} {ds : List D} {Q : Str → Prop} (w : Q c) : ∃ q, clsOf (.obj c ns ds) = some q ∧ Q q := ⟨c, rfl, w⟩
theorem x_tp {n : Nat} {gs : List D → Env → Option Env} {ρ2 : Env} {Q : Env → Prop} (e : gTp n gs d ρ = some ρ2) (w : Q ρ2) : ∃ r, gTp n gs d ρ = some r ∧ Q r := ⟨_, e, w⟩
theorem x_eqb {b : Bool} {o : Option D} {Q : Bool → Prop} (e : o = some (.bl b)) (w : Q b) : ∃ c, o = some (.bl c) ∧ Q c := ⟨b, e, w⟩
theorem i_T {b : Bool} {A B : Prop} (e : b = true) (w : A) : if b = true then A else B := by rw [if_pos e]; exact w
theorem i_F {b : Bool} {A B : Prop} (e : b = false) (w : B) : if b = true then A else B := by rw [e]; exact w
/-! ### texts by their letters -/
def S (l : List Nat) : Str := ⟨l.toArray⟩
theorem S_len (l : List Nat) : (S l).length = l.length := by show l.toArray.size = _; simp
theorem S_app (a b : List Nat) : S a ++ S b = S (a ++ b) := by
  show (⟨a.toArray ++ b.toArray⟩ : Str) = ⟨(a ++ b).toArray⟩
  simp
theorem chD_S (c : Nat) : chD c = .str (S [c]) := rfl
theorem S_list (l : List Nat) : (S l).cps.toList = l := by show l.toArray.toList = l; simp
theorem S_inj {a b : List Nat} (h : S a = S b) : a = b := by rw [← S_list a, h, S_list]
theorem S_of (s : Str) : S s.cps.toList = s := by cases s; simp [S]
theorem x_sqS {l : List Nat} {Q : List D → Prop} (w : Q (l.map chD)) : ∃ es, asSeq (.str (S l)) = some es ∧ Q es := ⟨_, rfl, by rw [S_list]; exact w⟩
theorem popAt_at {ds : List D} {r : Int} (h0 : 0 ≤ r) (hr : r < ds.length) (hz : ds.length < 2 ^ 62) : ∃ d, ds[r.toNat]? = some d ∧ stPopAt ds [.int r] = some (d, ds.eraseIdx r.toNat) := by
  have hl : r.toNat < ds.length := by omega
  refine ⟨ds[r.toNat], List.getElem?_eq_getElem hl, ?_⟩
  show (if _ then _ else none) = _
  rw [if_pos (by omega), show seqIndex? r ds.length = some r.toNat from PySem.seqIndex_of h0 hr]
  show (ds[r.toNat]?.map _) = _
  rw [List.getElem?_eq_getElem hl]
  rfl
theorem eraseIdx_map {α β : Type} (f : α → β) : ∀ (l : List α) (n : Nat), (l.map f).eraseIdx n = (l.eraseIdx n).map f
  | [], _ => rfl
  | _ :: _, 0 => rfl
  | a :: l, n + 1 => by simp [eraseIdx_map f l n]
theorem erase_perm {α : Type} : ∀ (l : List α) (n : Nat) (a : α), l[n]? = some a → l.Perm (a :: l.eraseIdx n)
  | [], _, _, h => by simp at h
  | b :: l, 0, a, h => by simp at h; subst h; exact .refl _
  | b :: l, n + 1, a, h => by
    have := erase_perm l n a (by simpa using h)
    exact (this.cons b).trans (.swap a b _)
theorem at_in {α : Type} {l : List α} {r : Int} (h0 : 0 ≤ r) (hr : r < l.length) : ∃ c, atI l r = some c ∧ l[r.toNat]? = some c := by
  have hl : r.toNat < l.length := by omega
  refine ⟨l[r.toNat], ?_, List.getElem?_eq_getElem hl⟩
  unfold atI
  rw [show ixN l.length r = some r.toNat by unfold ixN; rw [if_pos h0, if_pos hr]]
  exact List.getElem?_eq_getElem hl
theorem at_nat {α : Type} {l : List α} {r : Nat} {c : α} (h : l[r]? = some c) : atI l (r : Int) = some c := by
  have hl : r < l.length := (List.getElem?_eq_some_iff.1 h).1
  obtain ⟨c', h1, h2⟩ := at_in (l := l) (r := (r : Int)) (by omega) (by omega)
  rw [h1, ← h2]; exact h
theorem log_small {j : Int} (h0 : 0 ≤ j) (h : j < 10 ^ 60) : j.natAbs.log2 < 9000 := by
  have : j.natAbs < 2 ^ 9000 := Nat.lt_of_lt_of_le (by omega : j.natAbs < 10 ^ 60) (Nat.le_trans (Nat.le_of_lt (by decide : 10 ^ 60 < 2 ^ 256)) (Nat.pow_le_pow_right (by decide) (by decide)))
  by_cases hz : j.natAbs = 0
  · rw [hz]; decide
  · exact (Nat.log2_lt hz).mpr this
/-! ### operators -/
theorem o_isiB {T : String} {b : Bool} (e : isiD T d = some (.bl b)) (w : P (.bl b) ρ) : wo (isiD T d) ρ P := o_some e w
theorem o_listS {t : Str} {l : List Nat} (e : t.cps.toList = l) (h : t.cps.size ≤ sizeLine) (w : P (.lst (l.map chD)) ρ) : wo (oListS [.str t]) ρ P := o_some (d := .lst (l.map chD)) (by
  show ifO (t.cps.size ≤ sizeLine) (.lst (t.cps.toList.map chD)) = _
  unfold ifO
  rw [if_pos h, e]) w
theorem o_tupS {l : List Nat} (h : l.length ≤ sizeLine) (w : P (.tup (l.map chD)) ρ) : wo (oTupS [.str (S l)]) ρ P := o_some (d := .tup (l.map chD)) (by
  show ifO ((S l).cps.size ≤ sizeLine) (.tup ((S l).cps.toList.map chD)) = _
  unfold ifO
  have hz : (S l).cps.size ≤ sizeLine := by have := S_len l; show (S l).length ≤ _; rw [this]; exact h
  rw [if_pos hz, S_list]) w
theorem o_catL {a b : List D} (h : a.length + b.length ≤ 2 ^ 24) (w : P (.lst (a ++ b)) ρ) : wo (catD (.lst a) (.lst b)) ρ P := o_some (d := .lst (a ++ b)) (show ifO _ _ = _ from if_pos h) w
theorem o_lenS' {l : List Nat} (hl : l.length ≤ 2 ^ 24) (w : P (.int l.length) ρ) : wo (oLen [.str (S l)]) ρ P := o_lenS (by rw [S_len]; exact hl) (by rw [S_len]; exact w)
theorem o_ixS {l : List Nat} {r : Int} (hl : l.length ≤ 2 ^ 24) (h0 : 0 ≤ r) (hr : r < l.length) (w : ∀ c, l[r.toNat]? = some c → P (.str (S [c])) ρ) : wo (ixD (.str (S l)) (.int r)) ρ P := by
  obtain ⟨c, h1, h2⟩ := at_in h0 hr
  refine o_some (d := chD c) ?_ (w c h2)
  show (if _ then _ else none) = _
  rw [if_pos (by rw [S_len]; exact hl), S_list, h1]
  rfl
theorem o_catS {a b : List Nat} (h : a.length + b.length ≤ 2 ^ 24) (w : P (.str (S (a ++ b))) ρ) : wo (addD (.str (S a)) (.str (S b))) ρ P := o_cat (by rw [S_len, S_len]; exact h) (by rw [S_app]; exact w)
theorem o_inS {c : Nat} {l : List Nat} (w : P (.bl (decide (c ∈ l))) ρ) : wo (inD (chD c) (.str (S l))) ρ P := o_some (d := .bl (decide (c ∈ l))) (by
  show some (D.bl (decide (c ∈ (S l).cps.toList))) = _
  simp only [S_list]) w
theorem o_notInS {c : Nat} {l : List Nat} (w : P (.bl (!decide (c ∈ l))) ρ) : wo (notInD (chD c) (.str (S l))) ρ P := o_some (d := .bl (!decide (c ∈ l))) (by
  show some (D.bl (!decide (c ∈ (S l).cps.toList))) = _
  simp only [S_list]) w
theorem o_sumI {ns : List Int} (w : P (.int ns.sum) ρ) : wo (oSum [.lst (ns.map D.int)]) ρ P := o_some (d := .int ns.sum) (by
  have h : ∀ ns : List Int, dInts (ns.map D.int) = some ns := by
    intro ns
    induction ns with
    | nil => rfl
    | cons a l ih => show (dInts (D.int a :: l.map D.int)) = _; simp [dInts, ih]
  show (dInts _).map _ = _
  rw [h]; rfl) w
theorem o_listL {ds : List D} (w : P (.lst ds) ρ) : wo (oList [.lst ds]) ρ P := w
theorem o_listT {ds : List D} (w : P (.lst ds) ρ) : wo (oList [.tup ds]) ρ P := w
theorem o_tupL {ds : List D} (w : P (.tup ds) ρ) : wo (oTup [.lst ds]) ρ P := w
theorem o_tupT {ds : List D} (w : P (.tup ds) ρ) : wo (oTup [.tup ds]) ρ P := w
theorem o_eqI {a b : Int} (w : P (.bl (decide (a = b))) ρ) : wo (eqD (.int a) (.int b)) ρ P := o_some (d := .bl (decide (a = b))) (by
  show ifO _ (.bl (a == b)) = _
  unfold ifO
  rw [if_pos ⟨rfl, rfl⟩]
  by_cases h : a = b <;> simp [h]) w
theorem o_neI {a b : Int} (w : P (.bl (!decide (a = b))) ρ) : wo (neD (.int a) (.int b)) ρ P := o_some (d := .bl (!decide (a = b))) (by
  show ifO _ (.bl (!(a == b))) = _
  unfold ifO
  rw [if_pos ⟨rfl, rfl⟩]
  by_cases h : a = b <;> simp [h]) w
theorem o_isN (w : P (.bl (isN d)) ρ) : wo (isNoneD d .non) ρ P := w
theorem o_notN (w : P (.bl (!isN d)) ρ) : wo (isNotNoneD d .non) ρ P := w
/-! ### dicts with letters as keys -/
theorem keyB_ch (a b : Nat) : keyB (chD a) (chD b) = decide (a = b) := by
  have h : keyB (kD (.inr (S [a]))) (kD (.inr (S [b]))) = decide ((Sum.inr (S [a]) : Key) = .inr (S [b])) := keyB_kD _ _
  refine h.trans ?_
  by_cases e : a = b
  · subst e; simp
  · have : ¬ (Sum.inr (S [a]) : Key) = .inr (S [b]) := by
      intro h
      have h1 : S [a] = S [b] := Sum.inr.inj h
      exact e (List.cons.inj (S_inj h1)).1
    simp [e, this]
theorem dFind_map (g : Nat → D) (c : Nat) : ∀ ls : List Nat, c ∈ ls → dFind (ls.map chD) (ls.map g) (chD c) = some (g c)
  | [], h => by simp at h
  | a :: ls, h => by
    show (if keyB (chD a) (chD c) then _ else _) = _
    rw [keyB_ch]
    by_cases e : a = c
    · subst e; simp
    · rw [if_neg (by simpa using e)]
      exact dFind_map g c ls (by simpa [Ne.symm e] using h)
theorem dFind_no (g : Nat → D) (c : Nat) : ∀ ls : List Nat, c ∉ ls → dFind (ls.map chD) (ls.map g) (chD c) = none
  | [], h => rfl
  | a :: ls, h => by
    show (if keyB (chD a) (chD c) then _ else _) = _
    rw [keyB_ch]
    have e : ¬ a = c := fun e => h (by simp [e])
    rw [if_neg (by simpa using e)]
    exact dFind_no g c ls (fun q => h (by simp [q]))
theorem any_ch (c : Nat) (ls : List Nat) (h : c ∉ ls) : (ls.map chD).any (keyB · (chD c)) = false := by
  rw [List.any_map, List.any_eq_false]
  intro a ha
  show ¬ keyB (chD a) (chD c) = true
  rw [keyB_ch]
  intro e
  exact h ((of_decide_eq_true e) ▸ ha)
theorem dPut_map (g : Nat → D) (c : Nat) (v : D) (ls : List Nat) (h : c ∉ ls) : dPut (ls.map chD) (ls.map g) (chD c) v = ((ls ++ [c]).map chD, (ls ++ [c]).map fun x => if x = c then v else g x) := by
  unfold dPut
  rw [if_neg (by rw [any_ch c ls h]; simp), List.map_append, List.map_append]
  refine Prod.ext rfl ?_
  show _ ++ [v] = _ ++ [if c = c then v else g c]
  rw [if_pos rfl]
  congr 1
  refine List.map_congr_left fun a ha => ?_
  have hn : a ≠ c := fun e => h (by rw [← e]; exact ha)
  rw [if_neg hn]
theorem keys_all (ls : List Nat) : (ls.map chD).all isKD = true := by
  rw [List.all_map, List.all_eq_true]
  intro a _
  rfl
/-- a dict over letters, its values by a function -/
abbrev chDic (ls : List Nat) (g : Nat → D) : D := .dic (ls.map chD) (ls.map g)
theorem o_getCh {ls : List Nat} {g : Nat → D} {c : Nat} (h : c ∈ ls) (w : P (g c) ρ) : wo (dgetD (chDic ls g) (chD c)) ρ P := o_some (d := g c) (by
  show (if (ls.map chD).all isKD then _ else _) = _
  rw [if_pos (keys_all ls)]
  show dFind _ _ _ = _
  exact dFind_map _ c ls h) w
theorem o_lenCh {ls : List Nat} {g : Nat → D} (w : P (.int ls.length) ρ) : wo (oLenD [chDic ls g]) ρ P := o_some (d := .int ls.length) (by
  show (if _ ∧ _ then _ else none) = _
  rw [if_pos ⟨keys_all ls, by simp⟩]
  simp) w
theorem o_notInCh {ls : List Nat} {g : Nat → D} {c : Nat} (w : P (.bl (!decide (c ∈ ls))) ρ) : wo (notInKD (chD c) (chDic ls g)) ρ P := o_some (d := .bl (!decide (c ∈ ls))) (by
  have e : inDD (chD c) (chDic ls g) = some (dFind (ls.map chD) (ls.map g) (chD c)).isSome := by
    show (if (ls.map chD).all isKD then _ else _) = _
    rw [if_pos (keys_all ls)]; rfl
  unfold notInKD
  rw [e]
  by_cases h : c ∈ ls
  · rw [dFind_map g c ls h]; simp [h]
  · rw [dFind_no g c ls h]; simp [h]) w
theorem o_listCh {ls : List Nat} {g : Nat → D} (w : P (.lst (ls.map chD)) ρ) : wo (oListDK [chDic ls g]) ρ P := o_some (d := .lst (ls.map chD)) (by
  show (if _ then _ else none) = _
  rw [if_pos (keys_all ls)]) w
/-- a dict comprehension over unlike letters -/
theorem w_dcCh {fi : Env → R (List D)} {fk f : Env → R D} {vs : List Nat} {ls : List Nat} {v : Nat → D} (hn : ls.Nodup) (hl : ls.length < 2 ^ 24) (w : wpx E (fi ρ) fun ds ρ1 => ds = ls.map chD ∧
    (∀ c, c ∈ ls → ∃ ρa, gt (chD c) (wipeE ρ1 vs) = some ρa ∧ wp (fk ρa) fun k ρb => k = chD c ∧ wp (f ρb) fun y ρc => y = v c ∧ wipeE ρc vs = wipeE ρ1 vs) ∧ P (chDic ls v) (restE ρ1 (wipeE ρ1 vs) vs)) : wpx E (mDc fi gt mYes fk f vs ρ) P := by
  unfold mDc
  refine wp_bind (wp_imp w fun ds ρ1 w1 => ?_)
  obtain ⟨rfl, hs, hp⟩ := w1
  have key : ∀ (r l : List Nat), l ++ r = ls → compD gt mYes fk f vs (r.map chD) (wipeE ρ1 vs) (l.map chD) (l.map v) = .ok (ls.map chD, ls.map v) (wipeE ρ1 vs) := by
    intro r
    induction r with
    | nil => intro l e; rw [List.append_nil] at e; subst e; rfl
    | cons c r ih =>
      intro l e
      have hc : c ∈ ls := by rw [← e]; simp
      have hcl : c ∉ l := by
        rw [← e] at hn
        intro q
        exact (List.nodup_append.1 hn).2.2 c q c (by simp) rfl
      obtain ⟨ρa, e1, w1⟩ := hs c hc
      obtain ⟨k, ρb, e2, rfl, w2⟩ := wp_of w1
      obtain ⟨y, ρc, e3, rfl, e4⟩ := wp_of w2
      rw [List.map_cons]
      unfold compD
      rw [e1]
      dsimp only [mYes]
      rw [e2]; dsimp only; rw [e3]; dsimp only
      have hll : l.length ≤ ls.length := by rw [← e]; simp
      rw [if_pos ⟨rfl, by rw [List.length_map]; show _ < 2 ^ 24; omega⟩, e4, dPut_map v c _ l hcl]
      dsimp only
      have e5 : ((l ++ [c]).map fun x => if x = c then v c else v x) = (l ++ [c]).map v := List.map_congr_left fun x _ => by
        by_cases h : x = c
        · rw [if_pos h, h]
        · rw [if_neg h]
      rw [e5]
      exact ih (l ++ [c]) (by simpa using e)
  have := key ls [] rfl
  rw [show compD gt mYes fk f vs (ls.map chD) (wipeE ρ1 vs) [] [] = _ from this]
  exact hp
/-- storing under a new letter -/
theorem x_dkCh {i : Nat} {hk : Env → R D} {ρ : Env} {ls : List Nat} {g : Nat → D} {c : Nat} {v : D} {Q : Env → Prop} (e : ρ.getD i none = some (chDic ls g)) (ek : hk ρ = .ok (chD c) ρ) (hc : c ∉ ls) (hl : ls.length < 2 ^ 24) (w : Q (ρ.set i (some (chDic (ls ++ [c]) fun x => if x = c then v else g x)))) : ∃ ρ2, gDk i hk v ρ = some ρ2 ∧ Q ρ2 := by
  refine ⟨_, ?_, w⟩
  unfold gDk
  rw [e, ek]
  dsimp only [chDic, ofO]
  rw [e]
  show (if _ then _ else none) = _
  rw [if_pos ⟨keys_all ls, by rw [List.length_map]; exact hl⟩, dPut_map _ c v ls hc]
theorem chDic_congr {ls : List Nat} {g g' : Nat → D} (h : ∀ c ∈ ls, g c = g' c) : chDic ls g = chDic ls g' := by
  unfold chDic
  rw [List.map_congr_left h]
/-! ### slices -/
theorem cut_to {l : List Nat} {k : Nat} (h : k ≤ l.length) : cutS (S l) none (some (k : Int)) = S (l.take k) := by
  rw [← S_of (cutS _ _ _)]
  congr 1
  unfold cutS
  simp [HT.sIx_none, HT.sIx_nat, S_list, S_len]
/-! ### more rules -/
theorem f_eq {EF : Ex → List D → Prop} {F : FSem} {ds : List D} {v : D} {Q : D → List D → Prop} (h : wf (F ds) fun d outs => d = v ∧ outs = []) (w : Q v []) : wfx EF (F ds) Q := wf_impE h (fun d outs e => by obtain ⟨rfl, rfl⟩ := e; exact w) fun _ _ h => h.elim
theorem x_leI {a b : Int} {Q : Bool → Prop} (w : Q (decide (a ≤ b))) : ∃ c, leD (.int a) (.int b) = some (.bl c) ∧ Q c := ⟨_, rfl, w⟩
theorem x_ltI {a b : Int} {Q : Bool → Prop} (w : Q (decide (a < b))) : ∃ c, ltD (.int a) (.int b) = some (.bl c) ∧ Q c := ⟨_, rfl, w⟩
theorem one_lt {a b : Nat} : ([a] < [b]) ↔ a < b := by
  rw [List.cons_lt_cons_iff]
  constructor
  · rintro (h | ⟨_, h⟩)
    · exact h
    · exact absurd h (List.lt_irrefl _)
  · exact fun h => .inl h
theorem not_dec {p q : Prop} [Decidable p] [Decidable q] (h : q ↔ ¬ p) : (!decide p) = decide q := by
  by_cases hp : p
  · rw [decide_eq_true hp, decide_eq_false (fun hq => h.1 hq hp)]; rfl
  · rw [decide_eq_false hp, decide_eq_true (h.2 hp)]; rfl
theorem le_chL {s : Str} {a c : Nat} (e : s.cps.toList = [a]) : leD (.str s) (chD c) = some (.bl (decide (a ≤ c))) := by
  show some (D.bl (!decide (([c] : List Nat) < s.cps.toList))) = _
  congr 2
  refine not_dec ?_
  rw [e, one_lt]; omega
theorem le_chR {s : Str} {a c : Nat} (e : s.cps.toList = [a]) : leD (chD c) (.str s) = some (.bl (decide (c ≤ a))) := by
  show some (D.bl (!decide (s.cps.toList < ([c] : List Nat)))) = _
  congr 2
  refine not_dec ?_
  rw [e, one_lt]; omega
theorem x_leCh {s : Str} {a c : Nat} {Q : Bool → Prop} (e : s.cps.toList = [a]) (w : Q (decide (a ≤ c))) : ∃ b, leD (.str s) (chD c) = some (.bl b) ∧ Q b := ⟨_, le_chL e, w⟩
theorem o_leCh {s : Str} {a c : Nat} (e : s.cps.toList = [a]) (w : P (.bl (decide (c ≤ a))) ρ) : wo (leD (chD c) (.str s)) ρ P := o_some (le_chR e) w
theorem nodup_take {α : Type} {l : List α} {i : Nat} {c : α} (hn : l.Nodup) (h : l[i]? = some c) : c ∉ l.take i := by
  have e : l.take (i + 1) = l.take i ++ [c] := by rw [List.take_succ, h]; rfl
  have h1 : (l.take i ++ [c]).Nodup := e ▸ hn.sublist (List.take_sublist (i + 1) l)
  intro h2
  exact (List.nodup_append.1 h1).2.2 c h2 c (by simp) rfl
theorem take_at {α : Type} {l : List α} {i : Nat} {c : α} (h : l[i]? = some c) : l.take (i + 1) = l.take i ++ [c] := by rw [List.take_succ, h]; rfl
theorem map_at {α β : Type} {f : α → β} {l : List α} {i : Nat} {d : β} (h : (l.map f)[i]? = some d) : ∃ c, l[i]? = some c ∧ d = f c := by
  rw [List.getElem?_map, Option.map_eq_some_iff] at h
  obtain ⟨c, h1, h2⟩ := h
  exact ⟨c, h1, h2.symm⟩
theorem enum_at {l : List Nat} {i : Nat} {d : D} (h : (enumL 0 (l.map chD))[i]? = some d) : ∃ c, l[i]? = some c ∧ d = .tup [.int (i : Nat), chD c] := by
  rw [enumL_get, List.getElem?_map, Option.map_map, Option.map_eq_some_iff] at h
  obtain ⟨c, h1, h2⟩ := h
  refine ⟨c, h1, ?_⟩
  rw [← h2]
  show D.tup [.int ((0 + i : Nat) : Int), chD c] = _
  rw [Nat.zero_add]
theorem x_enS {l : List Nat} {Q : List D → Prop} (w : Q (enumL 0 (l.map chD))) : ∃ s : Str, D.str (S l) = .str s ∧ Q (enumL 0 (s.cps.toList.map chD)) := ⟨S l, rfl, by rw [S_list]; exact w⟩
theorem x_cutTo {l : List Nat} {k : Nat} {Q : Str → Prop} (hl : l.length ≤ 2 ^ 24) (h : k ≤ l.length) (w : Q (S (l.take k))) : (S l).length ≤ sizeLine ∧ Q (cutS (S l) none (some (k : Int))) := ⟨by rw [S_len]; exact hl, by rw [cut_to h]; exact w⟩
theorem x_fldS {i : Nat} {ρ : Env} {cn c : Str} {ns : List Str} {ds : List D} {Q : Str → List Str → List D → Prop} (e : ρ.getD i none = some (.obj c ns ds)) (e2 : c = cn ∧ ns.length < 1000) (w : Q c ns ds) : ∃ c ns ds, ρ.getD i none = some (.obj c ns ds) ∧ (c = cn ∧ ns.length < 1000) ∧ Q c ns ds := ⟨c, ns, ds, e, e2, w⟩
theorem x_mk {o : D} {Q : D → Prop} (w : Q o) : ∃ q, D.non = .non ∧ [o] = [q] ∧ Q q := ⟨o, rfl, rfl, w⟩
/-! ### joining without a text between -/
theorem joinS : ∀ ls : List (List Nat), Str.join (S []) (ls.map S) = S ls.flatten
  | [] => rfl
  | [l] => by
    show S l = S (l ++ [])
    rw [List.append_nil]
  | l :: m :: r => by
    show S l ++ S [] ++ Str.join (S []) ((m :: r).map S) = S (l ++ (m :: r).flatten)
    rw [joinS (m :: r), S_app, S_app, List.append_nil]
theorem joinE (ls : List (List Nat)) : Txt.join (S []) (ls.map S) = S ls.flatten := (TL.join_eq (S []) (ls.map S)).trans (joinS ls)
theorem dStrs_map : ∀ ls : List (List Nat), dStrs (ls.map fun l => D.str (S l)) = some (ls.map S)
  | [] => rfl
  | l :: ls => by
    show (dStrs (ls.map fun l => D.str (S l))).map (S l :: ·) = _
    rw [dStrs_map ls]; rfl
theorem sum_len : ∀ ls : List (List Nat), ((ls.map S).map (·.length)).sum = ls.flatten.length
  | [] => rfl
  | l :: ls => by
    show (S l).length + ((ls.map S).map (·.length)).sum = _
    rw [sum_len ls, S_len, List.flatten_cons, List.length_append]
theorem o_joinE {ls : List (List Nat)} (h : ls.flatten.length ≤ 2 ^ 24) (w : P (.str (S ls.flatten)) ρ) : wo (oJoin (S []) [.lst (ls.map fun l => D.str (S l))]) ρ P := o_some (d := .str (S ls.flatten)) (by
  show (dStrs _).bind _ = _
  rw [dStrs_map]
  show ifO _ _ = _
  unfold ifO
  rw [sum_len, if_pos (by show _ + _ * 0 ≤ _; omega), joinE]) w
end
end Ip
namespace Ip
open PySem L2
section
variable {E : Ex → Env → Prop} {i j n : Nat} {ρ : Env} {d x y z : D} {f h : Env → R D} {g : Env → R (List D)} {P : D → Env → Prop} {F : FSem}
theorem w_fld1 {c nm : Str} (w : wpx E (f ρ) fun o ρ1 => ∃ d, (clsOf o = some c ∧ fldD nm o = some d) ∧ P d ρ1) : wpx E (mFld [c] nm f ρ) P := w_fld (wp_imp w fun o ρ1 ⟨d, ⟨e1, e2⟩, w1⟩ => ⟨c, e1, by simp, o_some e2 w1⟩)
theorem x_fld {c nm : Str} {o : D} {Q : D → Prop} (e1 : clsOf o = some c) (e2 : fldD nm o = some d) (w : Q d) : ∃ d, (clsOf o = some c ∧ fldD nm o = some d) ∧ Q d := ⟨d, ⟨e1, e2⟩, w⟩
theorem x_meth {cs : List Str} {c m : Str} {o : D} {Q : Prop} (e1 : clsOf o = some c) (e2 : cs.contains c = true ∧ hasNo m o = true) (w : Q) : ∃ c, clsOf o = some c ∧ (cs.contains c = true ∧ hasNo m o = true) ∧ Q := ⟨c, e1, e2, w⟩
theorem o_ixN {ds : List D} {k : Nat} (e : ds[k]? = some d) (w : P d ρ) : wo (ixD (.lst ds) (.int k)) ρ P := o_ixL (at_nat e) w
theorem o_ixNT {ds : List D} {k : Nat} (e : ds[k]? = some d) (w : P d ρ) : wo (ixD (.tup ds) (.int k)) ρ P := o_ixT (at_nat e) w
theorem eqv_str (a b : Str) : PyData.eqv (.str a) (.str b) = (a == b) := rfl
def Sg (a : List Nat) : Prop := ∀ c ∈ a, c < 0x110000
theorem shaped_S {a : List Nat} (h : Sg a) : SeqAt.shaped (.str (S a)) = true := by
  show ((S a).cps.all (· < 0x110000) && decide _) = true
  rw [Bool.and_eq_true]
  refine ⟨?_, rfl⟩
  rw [← Array.all_toList, S_list, List.all_eq_true]
  intro c hc
  exact decide_eq_true (h c hc)
theorem o_eqS {a b : List Nat} (ha : Sg a) (hb : Sg b) (w : P (.bl (decide (a = b))) ρ) : wo (eqD (.str (S a)) (.str (S b))) ρ P := o_some (d := .bl (decide (a = b))) (by
  show ifO _ (.bl (S a == S b)) = _
  unfold ifO
  rw [if_pos ⟨shaped_S ha, shaped_S hb⟩]
  congr 2
  by_cases h : a = b
  · subst h; simp
  · have : ¬ S a = S b := fun e => h (S_inj e)
    simp [h, this]) w
theorem o_neS {a b : List Nat} (ha : Sg a) (hb : Sg b) (w : P (.bl (!decide (a = b))) ρ) : wo (neD (.str (S a)) (.str (S b))) ρ P := o_some (d := .bl (!decide (a = b))) (by
  show ifO _ (.bl (!(S a == S b))) = _
  unfold ifO
  rw [if_pos ⟨shaped_S ha, shaped_S hb⟩]
  congr 3
  by_cases h : a = b
  · subst h; simp
  · have : ¬ S a = S b := fun e => h (S_inj e)
    simp [h, this]) w
theorem o_eqB {a b : Bool} (w : P (.bl (a == b)) ρ) : wo (eqD (.bl a) (.bl b)) ρ P := o_some (d := .bl (a == b)) (by
  show ifO _ (.bl _) = _
  unfold ifO
  rw [if_pos ⟨rfl, rfl⟩]
  cases a <;> cases b <;> rfl) w
theorem o_rev {ds : List D} (w : P (.lst ds.reverse) ρ) : wo (revD (.lst ds)) ρ P := w
/-- what a loop over letters leaves: an early end -/
theorem cut_from {l : List Nat} {k : Nat} (h : k ≤ l.length) : cutS (S l) (some (k : Int)) none = S (l.drop k) := by
  rw [← S_of (cutS _ _ _)]
  congr 1
  unfold cutS
  simp [HT.sIx_none, HT.sIx_nat, S_list, S_len, Nat.min_eq_left h]
  rw [List.take_of_length_le (by rw [List.length_drop]; omega)]
/-- a comprehension over known things -/
theorem w_mapT {α : Type} {gt : D → Env → Option Env} {fi : Env → R (List D)} {vs : List Nat} {l : List α} (A B : α → D) (w : wpx E (fi ρ) fun ds ρ1 => ds = l.map A ∧ l.length < sizeLine ∧ (∀ a, a ∈ l → ∃ ρa, gt (A a) (wipeE ρ1 vs) = some ρa ∧ wp (f ρa) fun y ρb => y = B a ∧ wipeE ρb vs = wipeE ρ1 vs) ∧ P (.lst (l.map B)) (restE ρ1 (wipeE ρ1 vs) vs)) : wpx E (mLc fi gt mYes f vs ρ) P := w_lc (wp_imp w fun ds ρ1 ⟨e, hz, hs, hp⟩ => by
  subst e
  refine ⟨by rw [List.length_map]; exact hz, fun i ρ acc => ρ = wipeE ρ1 vs ∧ acc = (l.take i).map B, ⟨rfl, rfl⟩, fun i d ρ acc hd hi => ?_, fun ρ2 acc hi => ?_⟩
  · obtain ⟨rfl, rfl⟩ := hi
    obtain ⟨a, ha, rfl⟩ := map_at hd
    obtain ⟨ρa, e1, w⟩ := hs a (List.mem_of_getElem? ha)
    refine ⟨by rw [List.length_map, List.length_take]; omega, ρa, e1, w_yes ?_⟩
    rw [if_pos rfl]
    refine wp_imp w fun y ρb ⟨e2, e3⟩ => ⟨e3, ?_⟩
    rw [take_at ha, List.map_append, e2]
    rfl
  · obtain ⟨rfl, rfl⟩ := hi
    rw [List.length_map, List.take_length]
    exact hp)
end
end Ip
namespace Ip
open PySem L2
section
variable {E : Ex → Env → Prop} {i j n : Nat} {ρ : Env} {d x y z : D} {f h : Env → R D} {g : Env → R (List D)} {P : D → Env → Prop} {F : FSem}
/-- a comprehension with a test -/
theorem w_filT {α : Type} {gt : D → Env → Option Env} {fi : Env → R (List D)} {tst : Env → R Bool} {vs : List Nat} {l : List α} (A B : α → D) (p : α → Bool) (w : wpx E (fi ρ) fun ds ρ1 => ds = l.map A ∧ l.length < sizeLine ∧ (∀ a, a ∈ l → ∃ ρa, gt (A a) (wipeE ρ1 vs) = some ρa ∧ wp (tst ρa) fun b ρb => b = p a ∧ if p a = true then wp (f ρb) (fun y ρc => y = B a ∧ wipeE ρc vs = wipeE ρ1 vs) else wipeE ρb vs = wipeE ρ1 vs) ∧ P (.lst ((l.filter p).map B)) (restE ρ1 (wipeE ρ1 vs) vs)) : wpx E (mLc fi gt tst f vs ρ) P := w_lc (wp_imp w fun ds ρ1 ⟨e, hz, hs, hp⟩ => by
  subst e
  refine ⟨by rw [List.length_map]; exact hz, fun i ρ acc => ρ = wipeE ρ1 vs ∧ acc = ((l.take i).filter p).map B, ⟨rfl, rfl⟩, fun i d ρ acc hd hi => ?_, fun ρ2 acc hi => ?_⟩
  · obtain ⟨rfl, rfl⟩ := hi
    obtain ⟨a, ha, rfl⟩ := map_at hd
    obtain ⟨ρa, e1, w⟩ := hs a (List.mem_of_getElem? ha)
    refine ⟨by
      rw [List.length_map]
      have h1 := List.length_filter_le p (l.take i)
      have h2 : (l.take i).length ≤ i := by rw [List.length_take]; omega
      omega, ρa, e1, wp_imp w fun b ρb w1 => ?_⟩
    obtain ⟨e2, w2⟩ := w1
    subst e2
    cases q : p a with
    | true =>
      rw [q, if_pos rfl] at w2
      rw [if_pos rfl]
      refine wp_imp w2 fun y ρc ⟨e3, e4⟩ => ⟨e4, ?_⟩
      rw [take_at ha, List.filter_append, List.map_append, e3]
      simp [q]
    | false =>
      rw [q, if_neg Bool.false_ne_true] at w2
      rw [if_neg Bool.false_ne_true]
      refine ⟨w2, ?_⟩
      rw [take_at ha, List.filter_append]
      simp [q]
  · obtain ⟨rfl, rfl⟩ := hi
    rw [List.length_map, List.take_length]
    exact hp)
theorem o_max {a b : Int} (w : P (.int (if b > a then b else a)) ρ) : wo (oMax [.int a, .int b]) ρ P := w
theorem o_min {a b : Int} (w : P (.int (if b < a then b else a)) ρ) : wo (oMin [.int a, .int b]) ρ P := w
end
end Ip
set_option maxHeartbeats 2000000
namespace Ip
open PySem L2 PySem.Spec PyProof.Rows
/-- the law's end where the context of the errors names the world -/
theorem law_end {lw : PySem.W.OpenLaw} {nn kk : Nat} {qq : Program} {ll : List Str} {XP : (Str → Option Value) → Heap → Prop} {YP : World → Heap → Prop} {dd : DefRec} {xx : Str} (a1 : lw.most = some nn) (a2 : nn ≤ sizeLine) (a3 : dd.params.defaults = []) (a4 : Room kk callerA)
    (FF : ∀ (w : World) (mg : Str → Option Value) (fa : Addr) (hh : Heap), YP w hh → hh.Ns mainGlobals mg → mg dd.name = some (.ref fa) → ∃ (K : PySem.W.Frag) (fd : FuncData) (sp : Sp), K.In hh ∧ (∀ (sh : Shared) (u : Value), BindsTo sh fd ⟨[u], []⟩ [(xx, u)]) ∧ (∀ (H : Hp) (a : Addr) (ns : List Int), ns.length ≤ nn → Only H → SqL K H a (ns.map V.int) → sp [.ref a] H (fun v _ => v = .bl true) fun _ _ _ => False) ∧ ∀ base : Heap, K.In base → base.Ns mainGlobals mg → FnOk lw.prog w K mg base (L2.CX lw.prog w) kk fa fd [xx] sp) :
    PySem.W.WalkO qq ll XP YP lw.row.toRowW dd [] (fun f vs => PySem.call f vs) := by
  refine Att.attach_call a1 a3 fun w sa sb mg mb fa o pm cd doc a vs ns G Y ho hd hcd h1 h2 h3 h4 h5 => ?_
  obtain ⟨K, fd, sp, KX, b1, b2, b3⟩ := FF w mg fa _ Y G.T.g h1
  refine law_call KX G.T.g G.T.b G.T.builtins G.T.nolimit h5 h2 h3 (Nat.le_trans h4 a2) a4 b3 b1 (fun H o1 o2 => b2 H a ns h4 o1 o2) ?_
  exact fun H e sc => law_cx H sb e sc
end Ip
set_option maxHeartbeats 1000000
namespace Ip
open PySem L2 PySem.Spec PyProof.Rows
/-! ## sep.join(reversed(xs)) -/
section
variable {prog : Program} {w : World} {A : Around} {E : Value → Shared → Prop} {s : Shared}
open Builtin Builtin.Str in
theorem made_gives {x : Str} {l : List (Str × Tok)} (h : JoinOk x (l.map (·.1)) = true) : Gives (joinTail x (strValues l)) (joinMade x l) ∧ (Txt.join x (l.map (·.1))).length ≤ sizeLine := by
  have no : tooLong ((l.map (·.1)).toArray.foldl (· + ·.length + x.length) 0) = false := by
    cases e : tooLong ((l.map (·.1)).toArray.foldl (· + ·.length + x.length) 0) with
    | false => rfl
    | true => unfold JoinOk at h; rw [e] at h; cases h
  refine ⟨?_, joinFit_length no⟩
  have g := gives_joinTail x l no
  rcases l with _ | ⟨a, _ | ⟨b, r⟩⟩ <;> exact g
theorem join_back {x : Str} {t : Tok} {it a : Addr} {its : Array Value} {ys : List Str} {Q : Value → Shared → Prop} (hh : A.handled = none) (hit : s.heap.IsRevIter it a ((its.size : Int) - 1)) (hl : s.heap.IsList a its) (hne : a ≠ it) (hn : its.size ≤ sizeLine)
    (hP : ∀ acc : Array Value, ItemsOf (fun i v => its[its.size - 1 - i]? = some v) acc its.size → StrsAre acc.toList ys) (hok : (ys.map (·.length)).sum + ys.length * x.length ≤ 16777216)
    (hq : ∀ (h' : Heap) (tk t' : Tok), (∀ b o, b ≠ it → s.heap.get? b = some o → h'.get? b = some o) → Q (.str (Txt.join x ys) t') { s with heap := h', toks := tk }) :
    wpAny (model prog w) A (call (.builtin "str.join") [.str x t, .ref it]) Q E s := by
  have ty : s.TypeIs (.ref it) "list_reverseiterator" := hit.typeIs
  refine wpAny_call (codeAny_call_builtin PySem.F.slot_str_join.plain PySem.F.entry_str_join (PySem.F.slot_str_join.check _ _ _ _ _ _ _ _ (typeIs_str _ _ _) (PySem.F.args_str_join_2 _ _) ?_))
  rw [join_tree_other]
  refine wpAny_bind (wpAny_typeOf ty ?_)
  rw [if_neg (by decide)]
  refine wpAny_bind (wpAny_tryCatch (wpAny_pyIter_revIter hit (wpAny_bind (RT.collect_rev hh hit hl hne hn fun h' tk acc k i => ?_))))
  obtain ⟨l, e1, e2⟩ := strsAre_values (hP acc i)
  rw [e1]
  subst e2
  obtain ⟨g, z⟩ := made_gives (joinOk_of hok)
  exact g prog w A (wants Q E) _ (post_join l ⟨z, fun t' k2 => hq h' k2 t' k⟩)
end
end Ip
namespace Ip
open PySem L2 PySem.Spec PyProof.Rows
theorem strs_back {its : List Value} {ys : List Str} (r : Vals (ys.map V.str) its) {acc : Array Value} (i : ItemsOf (fun i v => its.toArray[its.toArray.size - 1 - i]? = some v) acc its.toArray.size) : StrsAre acc.toList ys.reverse := by
  have z := vals_back r i
  rw [← List.map_reverse] at z
  generalize ys.reverse = zs at z
  generalize acc.toList = us at z
  clear i r
  induction us generalizing zs with
  | nil =>
    cases zs with
    | nil => exact .nil
    | cons a b => cases z
  | cons u us ih =>
    cases zs with
    | nil => cases z
    | cons a b =>
      cases z with
      | cons h t =>
        obtain ⟨k, rfl⟩ := h
        exact .cons a k (ih b t)
section
variable {X : Cx} {C : Ac} {W : WX} {Γ Γ1 Γ2 Γ' : List Nat} {fr fr1 : Bool} {o e : Expr} {f h : Env → R D} {p pos apos pos2 : Pos}
theorem pe_joinRev {to te : TE} (ho : PE X o to) (hc : X.calm = true) (hm : X.mg "reversed" = none) (he : PE X e te) (hg : Gl X "reversed") (hs : starEach [e] X.env = (false, eval e X.env) :: starEach [] X.env)
    (hs1 : starEach [.Call (.Name "reversed" p) [e] [] pos2] X.env = [(false, eval (.Call (.Name "reversed" p) [e] [] pos2) X.env)]) (hbase : attributeBase o "join" X.env (eval o X.env) = eval o X.env) (hline : (apos.endLine == pos.line) = true) :
    PE X (.Call (.Attribute o "join" apos) [.Call (.Name "reversed" p) [e] [] pos2] [] pos) fun σ H Q => to σ H fun x H1 => (∃ a, x = .str a) ∧ te σ H1 fun v H2 => ∃ (a : Str) (b : Addr) (ys : List Str), x = .str a ∧ v = .ref b ∧ SqL X.K H2 b (ys.map V.str) ∧
      (ys.map (·.length)).sum + ys.length * a.length ≤ 16777216 ∧ Q (.str (Txt.join a ys.reverse)) H2 := ⟨fun pins s σ H Q I q => by
  refine PySem.Call_method1 hbase hs1 hline (thn (ho.run pins s σ H _ I q) fun v s1 ⟨x, H1, I1, r1, e1, q1⟩ => ?_)
  obtain ⟨a, rfl⟩ := e1
  obtain ⟨t, rfl⟩ := id r1
  refine ⟨"str", _, PySem.F.plainAttrs_str, PySem.F.slot_str_join, PySem.F.type_str_join, typeIs_str _ _ _, (fun _ e => nomatch e), Calls.callWith_builtin rfl (Calls.evalArgs_plain (Calls.spliced_cons ?_))⟩
  refine Call_ (ld_blt I1 hg hm PyProof.Rows.boot_reversed (PyProof.Rows.callWith_type1 (args_cons (thn (he.run pins s1 σ H1 _ I1 q1) fun u s2 ⟨v, H2, I2, r2, q2⟩ => args_nil ?_) hs) hs rfl))
  obtain ⟨a', b, ys, ea, rfl, hq, hz, q2⟩ := q2
  cases ea; cases r2
  obtain ⟨its, rv, pl, hn⟩ := I2.list hq
  refine call_reversed_list pl.isList (Calls.spliced_nil ?_)
  have k0 : ∀ c o, s2.heap.get? c = some o → (s2.heap.push (revObj b ((its.toArray.size : Int) - 1))).get? c = some o := fun c o e => Heap.get?_push_of_some _ e
  have I3 : Inv X pins σ H2 { s2 with heap := s2.heap.push (revObj b ((its.toArray.size : Int) - 1)) } := I2.kept (t' := s2.toks) k0
  obtain ⟨f0, f1, f2, f3, f4, f5⟩ := I2.fpOk (H' := H2) (b := s2.heap.objs.size) (Nat.le_refl _) (I2.hok.fresh (Nat.le_refl _))
  obtain ⟨ol, hol, _⟩ := pl.isList
  refine join_back (s := { s2 with heap := s2.heap.push (revObj b ((its.toArray.size : Int) - 1)) }) (ys := ys.reverse) (I2.ok.hd hc) ⟨_, Heap.get?_push_size _ rfl, rfl, rfl⟩ (pl.isList.push _) (Nat.ne_of_lt (Heap.lt_size hol)) (by rw [List.size_toArray, ← rv.length]; exact hn) (fun acc i => strs_back rv i) (by rw [List.map_reverse, List.sum_reverse, List.length_reverse]; exact hz) fun h' tk t' k => ?_
  exact ⟨.str _, H2, I3.turned (t' := tk) (fun c o hb e => k c o hb e) f0 f1 f3 f4 f5, ⟨t', rfl⟩, q2⟩⟩
def oJoinRev (a : Str) : D → Option D
  | .lst ds => (dStrs ds).bind fun ys => ifO ((ys.map (·.length)).sum + ys.length * a.length ≤ 16777216) (.str (Txt.join a ys.reverse))
  | _ => none
def mJoinRev (f h : Env → R D) : Env → R D := fun ρ => (f ρ).bind fun d ρ1 => match d with
  | .str s => (h ρ1).bind fun d ρ2 => ofO ρ2 (oJoinRev s d)
  | _ => .bad
theorem se_joinRev (ho : SE X C W Γ o Γ1 fr f) (he : SE X C W Γ1 e Γ2 fr1 h) (hc : X.calm = true) (hm : X.mg "reversed" = none) (hg : Gl X "reversed" := by rfl) (hs : starEach [e] X.env = (false, eval e X.env) :: starEach [] X.env := by rfl)
    (hs1 : starEach [.Call (.Name "reversed" p) [e] [] pos2] X.env = [(false, eval (.Call (.Name "reversed" p) [e] [] pos2) X.env)] := by rfl) (hbase : attributeBase o "join" X.env (eval o X.env) = eval o X.env := by rfl) (hline : (apos.endLine == pos.line) = true := by rfl) :
    SE X C W Γ (.Call (.Attribute o "join" apos) [.Call (.Name "reversed" p) [e] [] pos2] [] pos) Γ2 false (mJoinRev f h) := ⟨peImp (pe_joinRev ho.pe hc hm he.pe hg hs hs1 hbase hline) fun σ H Q ⟨hid, ρ, S, p⟩ => by
  refine ⟨hid, ρ, S, ?_⟩
  unfold mJoinRev at p
  cases q : f ρ with
  | bad => rw [q] at p; exact p
  | exn e ρ' => rw [q] at p; exact p
  | ok d ρ1 =>
    rw [q] at p
    dsimp only [R.bind] at p
    intro v H1 tm S1 k1 va t1
    cases d with
    | str x =>
      have := shal_str va.shal0
      subst this
      refine ⟨⟨_, rfl⟩, tm ++ hid, ρ1, S1, ?_⟩
      cases q2 : h ρ1 with
      | bad => simp only [q2] at p; exact p
      | exn e ρ' => simp only [q2] at p; exact p
      | ok d2 ρ2 =>
        simp only [q2] at p
        intro u H2 tm2 S2 k2 va2 t2
        have e : tm2 ++ (tm ++ hid) = (tm2 ++ tm) ++ hid := (List.append_assoc ..).symm
        rw [e] at S2 k2
        cases q3 : oJoinRev x d2 with
        | none => rw [q3] at p; exact p.elim
        | some z =>
          rw [q3] at p
          cases d2 with
          | lst ds =>
            simp only [oJoinRev, Option.bind_eq_some_iff] at q3
            obtain ⟨ys, h1, h2⟩ := q3
            obtain ⟨h3, rfl⟩ := ifO_some h2
            have := strs_inv h1
            subst this
            have sh := va2.shal0
            cases sh with
            | lst hl r =>
              have := r.of_strs
              subst this
              exact ⟨x, _, ys, rfl, rfl, hl, h3, fin_fz p S.sub S2 (k1.trans k2 fun a ha => List.mem_append_right _ ha) _ H2 (.refl _) (.str _)⟩
          | _ => cases q3
    | _ => exact (show False from p).elim⟩
end
/-! ## divmod, text * int, lists of ints in order, an int in a list -/
section
variable {X : Cx} {g : Gx}
def oDivmod : List D → Option D
  | [.int i, .int j] => ifO (0 < j ∧ j < 1073741824) (.tup [.int (i / j), .int (i % j)])
  | _ => none
theorem cal_divmod : CalS g (fun xs H Q => ∃ i j, xs = [.int i, .int j] ∧ CDiv i j ∧ ∀ p, H p = none → Q (.ref p) (upd H p (.tup [.int (i / j), .int (i % j)]))) oDivmod := fun H M vs ds d Q tr ks ho q => by
  unfold oDivmod at ho
  split at ho
  · obtain ⟨c, rfl⟩ := ifO_some ho
    obtain ⟨v, u, rfl, s, t⟩ := shals2 ks
    cases s; cases t
    refine ⟨_, _, rfl, c, fun l hl => ?_⟩
    have hn : l ∉ M := fun z => tr l z hl
    refine q _ _ (same_upd hl) (.tup ?_ (.cons (.int _) (.cons (.int _) .nil)))
    rw [mask_out hn, upd_same]
  · cases ho
def mulS : D → D → Option D
  | .str x, .int n => ifO (x.length ≤ 4096 ∧ 0 ≤ n ∧ n ≤ 4096) (.str (Txt.mul x n))
  | _, _ => none
def rMulS : R2 := fun x y H Q => ∃ (a : Str) (n : Int), x = .str a ∧ y = .int n ∧ (a.length ≤ 4096 ∧ 0 ≤ n ∧ n ≤ 4096) ∧ Q (.str (Txt.mul a n)) H
theorem mulOk_small {a : Str} {n : Int} (h : a.length ≤ 4096 ∧ 0 ≤ n ∧ n ≤ 4096) : MulOk a n := by
  obtain ⟨h1, h2, h3⟩ := h
  refine ⟨by rw [decide_eq_false (by omega), decide_eq_false (by omega)]; rfl, fun k _ => ?_, fun k _ => ?_⟩
  · have : (2 ^ 63 - 1) / n ≥ 4096 := by
      rw [ge_iff_le, Int.le_ediv_iff_mul_le (by omega)]
      omega
    omega
  · have : a.length * n.toNat ≤ 4096 * 4096 := Nat.mul_le_mul h1 (by omega)
    unfold Builtin.Str.tooLong
    have : (16777216 : Nat) ≤ sizeLine := by decide
    exact decide_eq_false (by omega)
theorem op_mulS : OpR X (binaryOp .Mult) rMulS := fun pins s σ H x y v u Q I rx ry ⟨a, n, ex, ey, c, q⟩ => by
  subst ex ey
  obtain ⟨t, rfl⟩ := rx
  obtain ⟨k, rfl⟩ := ry
  exact SB.mul (mulOk_small c) fun t' k' => ⟨.str _, H, I.tok _, ⟨t', rfl⟩, q⟩
theorem mulS_ok : OpS g rMulS mulS := fun H M x y dx dy d Q tr sx sy ho q => by
  unfold mulS at ho
  split at ho
  · obtain ⟨c, rfl⟩ := ifO_some ho
    cases sx; cases sy
    exact ⟨_, _, rfl, rfl, c, q _ H (.refl _) (.str _)⟩
  · cases ho
def ltLD (a b : D) : Option D := match toPy a, toPy b with
  | some (.list xs), some (.list ys) => ifO (PySem.W.alike (.list xs) (.list ys) = true ∧ (PyData.list xs).depth ≤ 60) (.bl (PySem.W.dataLt (.list xs) (.list ys)))
  | _, _ => none
def rLtL (K : PySem.W.Frag) : R2 := fun x y H Q => ∃ d e, Dp K H x d ∧ Dp K H y e ∧ PySem.W.alike d e = true ∧ d ≠ .none ∧ d.depth ≤ 60 ∧ Q (.bl (PySem.W.dataLt d e)) H
theorem op_ltL (hu : X.A.units + 64 < cLine) : OpR X (compareOp .Lt) (rLtL X.K) := fun pins s σ H x y v u Q I rx ry ⟨d, e, hd, he, al, nn, dp, q⟩ => by
  obtain ⟨as, r1⟩ := Dp.reads I d x v hd rx
  obtain ⟨bs, r2⟩ := Dp.reads I e y u he ry
  exact PySem.W.rcLt_alike d e _ _ _ _ as bs r1 r2 al nn (by omega) X.prog X.w _ _ ⟨.bl _, H, I, rfl, q⟩
theorem ltL_ok : OpS g (rLtL g.K) ltLD := fun H M x y dx dy d Q tr sx sy ho q => by
  unfold ltLD at ho
  split at ho
  · rename_i xs ys h1 h2
    obtain ⟨⟨c1, c2⟩, rfl⟩ := ifO_some ho
    exact ⟨_, _, RV.dp _ _ _ sx.rv h1, RV.dp _ _ _ sy.rv h2, c1, (by intro z; cases z), c2, q _ H (.refl _) (.bl _)⟩
  · cases ho
def inID : D → D → Option D
  | .int i, .lst ds => (dInts ds).map fun ns => .bl (ns.contains i)
  | .int i, .tup ds => (dInts ds).map fun ns => .bl (ns.contains i)
  | _, _ => none
theorem inV_ints (i : Int) : ∀ ns : List Int, inV (.int i) (ns.map V.int) = ns.contains i
  | [] => rfl
  | n :: ns => by
    have := inV_ints i ns
    unfold inV at this ⊢
    rw [List.map_cons, List.any_cons, this, List.contains_cons]
    congr 1
    show (n == i) = (i == n)
    exact Bool.beq_comm
theorem flat_ints (ns : List Int) : (ns.map V.int).all flatV = true := by
  rw [List.all_eq_true]
  intro x hx
  obtain ⟨n, _, rfl⟩ := List.mem_map.mp hx
  rfl
theorem inI_ok : OpS g (rIn g.K false) inID := fun H M x y dx dy d Q tr sx sy ho q => by
  unfold inID at ho
  split at ho
  all_goals first | (cases ho; done) | skip
  all_goals
    simp only [Option.map_eq_some_iff] at ho
    obtain ⟨ns, h1, rfl⟩ := ho
    have := ints_inv h1
    subst this
    cases sx
    have e := inV_ints
    cases sy
    rename_i h r
    have := r.of_ints
    subst this
    refine ⟨_, _, rfl, ?_, rfl, flat_ints ns, ?_⟩
    · first | exact .inl ‹_› | exact .inr (.of ‹_›)
    · rw [if_neg (by decide), e]
      exact q _ H (.refl _) (.bl _)
end
end Ip
set_option maxHeartbeats 1000000
namespace Ip
open PySem L2 PySem.Spec PyProof.Rows
/-! ## several except clauses, each with a name or without one -/
/-- X holds what it caught: the exception at a, of the class cls with the data d -/
structure Caught (X : Cx) (pins : List (Addr × Obj)) (σ : L2.St) (H : Hp) (cls : Value) (d : Option Addr) (a : Addr) (s : Shared) : Prop where
  na : H a = none
  ex : ∃ (B : Heap) (sI : Shared), Inv X pins σ H sI ∧ (∀ b o, sI.heap.get? b = some o → b ∉ frs X.stack → B.get? b = some o) ∧ sI.heap.UpToSlots s.heap ∧ HandSPX.FlyingZ B X.stack a (Zc cls d) s.heap ∧ s.os = sI.os ∧ AllBare s.gens
section
variable {X : Cx} {pins : List (Addr × Obj)} {σ : L2.St} {H : Hp} {cls : Value} {d : Option Addr} {a : Addr} {s : Shared} {D : Ends} {Wout : WX} {E : Value → Shared → Prop}
theorem Caught.inv (c : Caught X pins σ H cls d a s) : Inv X pins σ H s := by
  obtain ⟨B, sI, I, nb, up, fl, os, ag⟩ := c.ex
  exact I.landed nb fl.1 up os ag
theorem Caught.obj (c : Caught X pins σ H cls d a s) (hs : X.stack = X.env :: X.outer) (hf : X.env.frame = some X.env.locals) : ∃ (o : Obj) (vs : Array Value), s.heap.get? a = some o ∧ o.data = .fields vs ∧ Zc cls d o ∧ a ≠ X.env.locals ∧ a ∉ X.fs := by
  obtain ⟨B, sI, _, _, _, fl, _⟩ := c.ex
  obtain ⟨o, vs, e, z, dd⟩ := fl.there
  have no : a ∉ frs X.stack := fun m => by
    obtain ⟨_, o2, e2, nd⟩ := fl.2.2.1.mem m
    exact nd vs (by rw [← dd, Option.some.inj (e2.symm.trans e)])
  rw [hs] at no
  refine ⟨o, vs, e, dd, z, fun q => no (List.mem_filterMap.mpr ⟨_, List.mem_cons_self, by rw [hf, q]⟩), fun q => ?_⟩
  obtain ⟨env, m, fe⟩ := List.mem_filterMap.mp q
  exact no (List.mem_filterMap.mpr ⟨env, List.mem_cons_of_mem _ m, fe⟩)
/-- no clause takes it -/
theorem Caught.pass (c : Caught X pins σ H cls d a s) (hf : X.env.frame = some X.env.locals) (tk : Takes X Wout) (w : Wout cls d σ H) (Q : Flow → Shared → Prop) : wpAny (model X.prog X.w) X.A (handleBy (.ref a) X.env []) Q X.xe s := by
  obtain ⟨B, sI, I, nb, up, fl, os, ag⟩ := c.ex
  have go : wpAny (model X.prog X.w) X.A (setFlight (.ref a) X.env.frame) (fun _ s2 => wpAny (model X.prog X.w) X.A (throw (.ref a) : Sem Flow) Q X.xe s2) X.xe s := by
    rw [hf]
    exact HandSPX.setFlight_upZ fl fun h2 hd up2 => wpAny_throw (tk _ _ ⟨a, B, sI, pins, σ, H, cls, d, rfl, I, nb, up.trans up2, .inr (.inr hd), c.na, os, ag, w⟩)
  obtain ⟨_, _, _, oe, vs, T, _, _, he, _, hd, h1, _⟩ := fl
  refine wpAny_handleBy_nil ?_
  unfold PySem.passOn
  refine wpAny_bind (wpAny_field he hd h1 ?_)
  have nz : (Value.ref T == Value.none) = false := by simp
  rw [nz, if_neg Bool.false_ne_true]
  first
    | exact wpAny_bind (wpAny_pure (wpAny_bind go))
    | exact wpAny_bind go
/-- the name of a class is looked up while the exception is held -/
theorem Caught.look (c : Caught X pins σ H cls d a s) (hs : X.stack = X.env :: X.outer) (hf : X.env.frame = some X.env.locals) {x : Str} {k : Value} {np : Pos} (hc : Names X x k) {Q : Value → Shared → Prop} (q : Q k s) : wpAny (model X.prog X.w) (X.A.mark (some (.ref a))) (eval (.Name x np) X.env) Q E s := by
  obtain ⟨o, vs, e, dd, z, nL, nF⟩ := c.obj hs hf
  have S := c.inv.suite e dd c.na nL nF
  rcases hc with ⟨g, nd, m | ⟨m, v, nn⟩⟩
  · exact ld_glob (X := X.suite a ((a, o) :: (X.pn ++ pins))) S g m q nd
  · exact ld_blt (X := X.suite a ((a, o) :: (X.pn ++ pins))) S g m v q nn nd
/-- it is landed anew for the suite -/
theorem Caught.down (c : Caught X pins σ H cls d a s) {Q : Unit → Shared → Prop} (q : ∀ h', Caught X pins σ H cls d a { s with heap := h' } → Q () { s with heap := h' }) : wpAny (model X.prog X.w) (X.A.mark (some (.ref a))) (setFlight (.ref a) none) Q E s := by
  obtain ⟨B, sI, I, nb, up, fl, os, ag⟩ := c.ex
  exact HandSPX.lands_againZ fl fun h' fl' up' => q h' ⟨c.na, B, sI, I, nb, up.trans up', fl', os, ag⟩
/-- one clause: the class, the name's slot (if any), what its suite does -/
abbrev Cl := Value × Option Nat × (Addr → Value → Option Addr → TS)
def endN (D : Ends) (i : Nat) : Ends := { nx := fun σ' H' => D.nx (σ'.set i none) H', rt := D.rt, bk := fun σ' H' => D.bk (σ'.set i none) H', ct := fun σ' H' => D.ct (σ'.set i none) H' }
def hitC (i : Option Nat) (ts : Addr → Value → Option Addr → TS) (a : Addr) (cls : Value) (d : Option Addr) (D : Ends) (σ : L2.St) (H : Hp) : Prop := match i with
  | none => ts a cls d D σ H
  | some i => ts a cls d (endN D i) (σ.set i (some (.ref a))) H
def wCls (K : PySem.W.Frag) (Wout : WX) (D : Ends) : List Cl → WX
  | [] => Wout
  | (k, i, ts) :: r => fun cls d σ H => ∃ b, PySem.W.exmOne K cls k = some b ∧ (b = false → wCls K Wout D r cls d σ H) ∧
      (b = true → ∀ a, H a = none → hitC i ts a cls d D σ H)
inductive ClsOk (X : Cx) : List ExceptHandler → List Cl → Prop
  | nil : ClsOk X [] []
  | bare {x : Str} {k : Value} {ts : Addr → Value → Option Addr → TS} {b0 : Stmt} {b : List Stmt} {np p : Pos} {hds : List ExceptHandler} {l : List Cl} : Names X x k →
      (∀ (a : Addr) (o : Obj) (cls : Value) (d : Option Addr) (pn : List (Addr × Obj)), Zc cls d o → (∃ vs, o.data = .fields vs) → PSs (X.suite a ((a, o) :: pn)) (b0 :: b) (ts a cls d)) → ClsOk X hds l →
      ClsOk X (.ExceptHandler (some (.Name x np)) none (b0 :: b) p :: hds) ((k, none, ts) :: l)
  | named {x n : Str} {i : Nat} {k : Value} {ts : Addr → Value → Option Addr → TS} {b0 : Stmt} {b : List Stmt} {np p : Pos} {hds : List ExceptHandler} {l : List Cl} : Names X x k → X.N[i]? = some n → X.env.kindOf n = some .local →
      (∀ (a : Addr) (o : Obj) (cls : Value) (d : Option Addr) (pn : List (Addr × Obj)), Zc cls d o → (∃ vs, o.data = .fields vs) → PSs (X.suite a ((a, o) :: pn)) (b0 :: b) (ts a cls d)) → ClsOk X hds l →
      ClsOk X (.ExceptHandler (some (.Name x np)) (some n) (b0 :: b) p :: hds) ((k, some i, ts) :: l)
theorem suite_out {a : Addr} {o : Obj} {Q : Flow → Shared → Prop} {f : Flow} {s : Shared} (ok : X.Ok) (h : L2.SP (X.suite a ((a, o) :: (X.pn ++ pins))) [] D f s) : L2.SP X pins D f s := by
  cases f with
  | ret u =>
    obtain ⟨v, σ1, H1, I1, r, q⟩ := h
    exact ⟨v, σ1, H1, I1.unsuite ok, r, q⟩
  | _ =>
    obtain ⟨σ1, H1, I1, q⟩ := h
    exact ⟨σ1, H1, I1.unsuite ok, q⟩
theorem clauses (hs : X.stack = X.env :: X.outer) (hf : X.env.frame = some X.env.locals) (hN : X.N.Nodup) (tk : Takes X Wout) (c : Caught X pins σ H cls d a s) :
    ∀ {hds : List ExceptHandler} {l : List Cl}, ClsOk X hds l → wCls X.K Wout D l cls d σ H → wpAny (model X.prog X.w) X.A (handleBy (.ref a) X.env hds) (L2.SP X pins D) X.xe s := by
  have ok : X.Ok := c.inv.ok
  intro hds l h
  induction h with
  | nil => exact fun w => c.pass hf tk w _
  | @bare x k ts b0 b np p hds l hc hsu r ih =>
    rintro ⟨t, et, no, yes⟩
    obtain ⟨o, vs, e, dd, z, nL, nF⟩ := c.obj hs hf
    have L : PySem.W.Looks (model X.prog X.w) s.heap (typeOf (.ref a)) cls := fun A Q E s k q => wpAny_typeOf_ref (k _ _ e) (by rw [z.1]; exact q)
    refine wpAny_handleBy_cons (codeAny_handlers_test (c.look hs hf hc ((PySem.W.exm_one (M := model X.prog X.w) c.inv.kIn L et).here ?_))) (by intro q; cases q)
    cases t with
    | false => exact ih (no rfl)
    | true =>
      refine codeAny_handlers_suite (c.down fun h' c' => ?_)
      obtain ⟨o', vs', e', dd', z', nL', nF'⟩ := c'.obj hs hf
      exact wpAny_mono ((hsu a o' cls d (X.pn ++ pins) z' ⟨_, dd'⟩).run [] _ _ H D (c'.inv.suite e' dd' c.na nL' nF') (yes rfl a c.na)) (fun f s6 hsp => suite_out (Q := L2.SP X pins D) ok hsp) fun _ _ z => z.elim
  | @named x n i k ts b0 b np p hds l hc hi hl hsu r ih =>
    rintro ⟨t, et, no, yes⟩
    obtain ⟨o, vs, e, dd, z, nL, nF⟩ := c.obj hs hf
    have L : PySem.W.Looks (model X.prog X.w) s.heap (typeOf (.ref a)) cls := fun A Q E s k q => wpAny_typeOf_ref (k _ _ e) (by rw [z.1]; exact q)
    refine wpAny_handleBy_cons (codeAny_handlers_test (c.look hs hf hc ((PySem.W.exm_one (M := model X.prog X.w) c.inv.kIn L et).here ?_))) (by intro q; cases q)
    cases t with
    | false => exact ih (no rfl)
    | true =>
      refine codeAny_handlers_suite_as (c.down fun h' c' => ?_)
      obtain ⟨o', vs', e', dd', z', nL', nF'⟩ := c'.obj hs hf
      refine store_ok (X := X.suite a ((a, o') :: (X.pn ++ pins))) (v := .ref a) (c'.inv.suite e' dd' c.na nL' nF') hN hi (.inl hl) rfl (fun s5 S5 => ?_) (.inr hl)
      refine wpAny_mono ((hsu a o' cls d (X.pn ++ pins) z' ⟨_, dd'⟩).run [] s5 _ H (endN D i) S5 (yes rfl a c.na)) (fun f s6 hsp => ?_) fun _ _ z => z.elim
      have hsp := suite_out (Q := L2.SP X pins D) ok hsp
      cases f with
      | ret u =>
        obtain ⟨v, σ1, H1, I1, r, q⟩ := hsp
        exact gone_ok I1 hN hi hl fun s7 J => ⟨v, _, H1, J, r, q⟩
      | _ =>
        obtain ⟨σ1, H1, I1, q⟩ := hsp
        exact gone_ok I1 hN hi hl fun s7 J => ⟨_, H1, J, q⟩
theorem ps_tryC {body : List Stmt} {h0 : ExceptHandler} {hds : List ExceptHandler} {l : List Cl} {pos : Pos} {tb : WX → TS} (hs : X.stack = X.env :: X.outer) (hf : X.env.frame = some X.env.locals) (hN : X.N.Nodup) (tk : Takes X Wout)
    (hb : ∀ (W : WX) (pn : List (Addr × Obj)) (xe : Value → Shared → Prop), Takes (X.tr pn xe) W → PassesOwn (model X.prog X.w) X.A X.env xe → PSs (X.tr pn xe) body (tb W)) (hh : ClsOk X (h0 :: hds) l) :
    PS X (.Try body (h0 :: hds) [] [] pos) (fun D σ H => tb (wCls X.K Wout D l) D σ H) := ⟨fun pins s σ H D I h => by
  refine wpAny_Try_except (wpAny_mono ((hb _ (X.pn ++ pins) _ (fun u s' xx => ?_) PassesOwn.looking).run [] s σ H D (I.toTry _) h) (fun f s1 hsp => ?_) fun e s1 he => he)
  · obtain ⟨a, B, sI, ps, σ', H', cls, d, rfl, J, nb, up, sky, na, os, ag, w⟩ := xx
    have sky' : Sky B (X.env :: X.outer) a (Zc cls d) X.env.locals s'.heap := by rw [← hs]; exact sky
    refine Sky.land Zc.steady (by rw [I.ok.frames, hs]) hf sky' fun h3 fl up3 => ?_
    exact clauses (s := { s' with heap := h3 }) hs hf hN tk ⟨na, B, sI, J.ofTry I.ok, nb, up.trans up3, by rw [hs]; exact fl, os, ag⟩ hh w
  · cases f with
    | next =>
      obtain ⟨σ1, H1, I1, q⟩ := hsp
      exact wpAny_execs_nil ⟨σ1, H1, I1.ofTry I.ok, q⟩
    | ret u =>
      obtain ⟨v, σ1, H1, I1, r, q⟩ := hsp
      exact ⟨v, σ1, H1, I1.ofTry I.ok, r, q⟩
    | _ =>
      obtain ⟨σ1, H1, I1, q⟩ := hsp
      exact ⟨σ1, H1, I1.ofTry I.ok, q⟩⟩
end
end Ip
set_option maxHeartbeats 1000000
namespace Ip
open PySem L2 PySem.Spec PyProof.Rows
/-! ## try with clauses that each set one name to a value that is known ahead -/
structure TC where
  cn : Str
  i : Option Nat
  j : Nat
  d : D
  v : V
  Cc : Addr
def clr (i : Option Nat) (ρ : Env) : Env := match i with
  | none => ρ
  | some i => ρ.set i none
def clrS (i : Option Nat) (σ : L2.St) : L2.St := match i with
  | none => σ
  | some i => σ.set i none
def tcT (t : TC) : Addr → Value → Option Addr → TS := fun a cls od Dn σ H => cls = .ref t.Cc ∧ od = none ∧ (∀ i, t.i = some i → σ[i]? = some (some (.ref a))) ∧ ∀ H', Same H H' → Dn.nx (σ.set t.j (some t.v)) H'
def tcCl (t : TC) : Cl := (.ref t.Cc, t.i, tcT t)
def pickC : List (Str × Option Nat × Nat × D) → Ex → Env → R Fl
  | [], _, _ => .bad
  | (cn, i, j, d) :: r, e, ρ => if e.cls = cn then (if e.fld.isNone = true ∧ j < ρ.length ∧ (∀ k ∈ i, k < ρ.length) then .ok .nx (clr i (ρ.set j (some d))) else .bad) else pickC r e ρ
def tcK (t : TC) : Str × Option Nat × Nat × D := (t.cn, t.i, t.j, t.d)
def mTryC (l : List (Str × Option Nat × Nat × D)) (f : Env → R Fl) : Env → R Fl := fun ρ => match f ρ with
  | .ok .nx ρ' => .ok .nx ρ'
  | .exn e ρ' => pickC l e ρ'
  | _ => .bad
/-- the clauses are known: each takes its class, none takes the class of a later one -/
inductive TcOk (K : PySem.W.Frag) (ct : Str → Option Addr) (io : List Nat) : List TC → Prop
  | nil : TcOk K ct io []
  | cons {t : TC} {r : List TC} : ct t.cn = some t.Cc → PySem.W.exmOne K (.ref t.Cc) (.ref t.Cc) = some true → (∀ u ∈ r, PySem.W.exmOne K (.ref u.Cc) (.ref t.Cc) = some false) → (∀ A, RV ⟨K, ct⟩ A t.d t.v) →
      t.j ∉ io → (∀ k ∈ t.i, k ∉ io ∧ k ≠ t.j) → TcOk K ct io r → TcOk K ct io (t :: r)
section
variable {X : Cx} {W : WX} {Γb : List Nat} {fr : Bool} {body : List Stmt} {pos : Pos} {fb : Env → R Fl}
theorem tc_named {x n : Str} {t : TC} {i : Nat} {b0 : Stmt} {b : List Stmt} {np p : Pos} {hds : List ExceptHandler} {l : List Cl} (hi : t.i = some i) (hc : Names X x (.ref t.Cc))
    (hsu : ∀ (a : Addr) (o : Obj) (pn : List (Addr × Obj)), Zc (.ref t.Cc) none o → (∃ vs, o.data = .fields vs) → PSs (X.suite a ((a, o) :: pn)) (b0 :: b) fun Dn σ H => σ[i]? = some (some (.ref a)) ∧ ∀ H', Same H H' → Dn.nx (σ.set t.j (some t.v)) H')
    (r : ClsOk X hds l) (hN : X.N[i]? = some n := by rfl) (hl : X.env.kindOf n = some .local := by rfl) : ClsOk X (.ExceptHandler (some (.Name x np)) (some n) (b0 :: b) p :: hds) (tcCl t :: l) := by
  have e : tcCl t = (.ref t.Cc, some i, tcT t) := by unfold tcCl; rw [hi]
  rw [e]
  exact .named hc hN hl (fun a o cls d pn hz hd => ⟨fun pins s σ H Dn I ⟨q1, q2, q3, q4⟩ => by
    subst q1 q2
    exact (hsu a o pn hz hd).run pins s σ H Dn I ⟨q3 i hi, q4⟩⟩) r
theorem tc_bare {x : Str} {t : TC} {b0 : Stmt} {b : List Stmt} {np p : Pos} {hds : List ExceptHandler} {l : List Cl} (hi : t.i = none) (hc : Names X x (.ref t.Cc))
    (hsu : ∀ (a : Addr) (o : Obj) (pn : List (Addr × Obj)), Zc (.ref t.Cc) none o → (∃ vs, o.data = .fields vs) → PSs (X.suite a ((a, o) :: pn)) (b0 :: b) fun Dn σ H => ∀ H', Same H H' → Dn.nx (σ.set t.j (some t.v)) H')
    (r : ClsOk X hds l) : ClsOk X (.ExceptHandler (some (.Name x np)) none (b0 :: b) p :: hds) (tcCl t :: l) := by
  have e : tcCl t = (.ref t.Cc, none, tcT t) := by unfold tcCl; rw [hi]
  rw [e]
  exact .bare hc (fun a o cls d pn hz hd => ⟨fun pins s σ H Dn I ⟨q1, q2, _, q4⟩ => by
    subst q1 q2
    exact (hsu a o pn hz hd).run pins s σ H Dn I q4⟩) r
theorem pick_mem {e : Ex} {ρ : Env} : ∀ {l : List TC}, pickC (l.map tcK) e ρ ≠ .bad → ∃ t ∈ l, e.cls = t.cn
  | [], h => absurd rfl h
  | t :: r, h => by
    by_cases q : e.cls = t.cn
    · exact ⟨t, List.mem_cons_self, q⟩
    · have h : pickC (r.map tcK) e ρ ≠ .bad := by
        intro z
        refine h ?_
        show (if e.cls = t.cn then _ else pickC (r.map tcK) e ρ) = _
        rw [if_neg q]; exact z
      obtain ⟨u, hu, e2⟩ := pick_mem h
      exact ⟨u, List.mem_cons_of_mem _ hu, e2⟩
theorem TcOk.ct {K : PySem.W.Frag} {ct : Str → Option Addr} {io : List Nat} {l : List TC} (h : TcOk K ct io l) : ∀ t ∈ l, ct t.cn = some t.Cc := by
  induction h with
  | nil => exact fun _ z => nomatch z
  | cons h1 _ _ _ _ _ _ ih =>
    intro u hu
    rcases List.mem_cons.mp hu with rfl | hu
    · exact h1
    · exact ih u hu
/-- what the clauses do with an error of the body -/
theorem tc_take {ct : Str → Option Addr} {H0 H : Hp} {hid ioA : List Addr} {io : List Nat} {ρ0 ρ' : Env} {σ σ' : L2.St} {H' : Hp} {Dn : Ends} {e : Ex} {cls : Value} {od : Option Addr}
    (S : ST X.K ⟨ct, H0, hid, io, ioA⟩ hid io ρ0 σ H) (S' : ST X.K ⟨ct, H, hid, io, ioA⟩ hid io ρ' σ' H') {A : Hp} (xr : ExR ⟨X.K, ct⟩ H' A e cls od) :
    ∀ {l : List TC}, TcOk X.K ct io l → PostS X.K ⟨ct, H0, hid, io, ioA⟩ W io io Γb fr Dn σ H (pickC (l.map tcK) e ρ') → wCls X.K W Dn (l.map tcCl) cls od σ' H' := by
  intro l ok
  induction ok with
  | nil => exact fun p => (show False from p).elim
  | @cons t r hct hy hn hv hj hi ok ih =>
    intro p
    obtain ⟨C1, y1, y2, y3⟩ := xr
    subst y2
    have nb : pickC ((t :: r).map tcK) e ρ' ≠ .bad := fun z => by rw [z] at p; exact p
    obtain ⟨u, hu, eu⟩ := pick_mem nb
    have cu := (TcOk.cons hct hy hn hv hj hi ok).ct u hu
    have eC : C1 = u.Cc := Option.some.inj ((y1.symm.trans (congrArg ct eu)).trans cu)
    have p : PostS X.K ⟨ct, H0, hid, io, ioA⟩ W io io Γb fr Dn σ H (if e.cls = t.cn then (if e.fld.isNone = true ∧ t.j < ρ'.length ∧ (∀ k ∈ t.i, k < ρ'.length) then .ok .nx (clr t.i (ρ'.set t.j (some t.d))) else .bad) else pickC (r.map tcK) e ρ') := p
    by_cases hc : e.cls = t.cn
    · rw [if_pos hc] at p
      have eC : C1 = t.Cc := Option.some.inj ((y1.symm.trans (congrArg ct hc)).trans hct)
      subst eC
      by_cases c2 : e.fld.isNone = true ∧ t.j < ρ'.length ∧ ∀ k ∈ t.i, k < ρ'.length
      · rw [if_pos c2] at p
        obtain ⟨z1, z2, z3⟩ := c2
        have y4 : od = none := by
          cases ef : e.fld with
          | none => rw [ef] at y3; exact y3
          | some d => rw [ef] at z1; cases z1
        subst y4
        refine ⟨true, hy, (fun z => nomatch z), fun _ a ha => ?_⟩
        obtain ⟨S1, k1⟩ := S.inner S'
        have fin : ∀ H2, Same H' H2 → ∀ σ2, ST X.K ⟨ct, H0, hid, io, ioA⟩ hid io (clr t.i (ρ'.set t.j (some t.d))) σ2 H2 → Ms σ2 hid io = Ms σ' hid io → Dn.nx σ2 H2 := fun H2 sm σ2 S4 em => by
          refine p _ H2 S4 ?_
          rw [em]
          refine ⟨k1.le.trans (.of_same (mask_keep fun b o _ e => sm b o e)), fun a ha => ?_⟩
          have e := k1.fx a ha
          rw [← e]
          cases q : H' a with
          | none => exact absurd q (S1.trk a ha).1
          | some o => exact sm a o q
        have base : ∀ H2, Same H' H2 → ST X.K ⟨ct, H0, hid, io, ioA⟩ hid io (ρ'.set t.j (some t.d)) (σ'.set t.j (some t.v)) H2 := fun H2 sm => (S1.same sm).put hj (hv _) z2
        show hitC t.i (tcT t) a (.ref t.Cc) none Dn σ' H'
        unfold hitC
        split
        · rename_i ei
          refine ⟨rfl, rfl, (fun i z => by rw [ei] at z; cases z), fun H2 sm => fin H2 sm _ ?_ (Ms_set hj)⟩
          rw [ei]
          exact base H2 sm
        · rename_i i ei
          obtain ⟨i1, i2⟩ := hi i (by rw [ei]; rfl)
          refine ⟨rfl, rfl, (fun k z => ?_), fun H2 sm => ?_⟩
          · rw [ei] at z
            cases z
            exact List.getElem?_set_self (by rw [← S'.len]; exact z3 i (by rw [ei]; rfl))
          · have e2 : (((σ'.set i (some (V.ref a))).set t.j (some t.v)).set i none) = ((σ'.set t.j (some t.v)).set i none) := by
              rw [List.set_comm (l := σ') (some (V.ref a)) (some t.v) i2, List.set_set]
            show Dn.nx (((σ'.set i (some (V.ref a))).set t.j (some t.v)).set i none) H2
            rw [e2]
            refine fin H2 sm _ ?_ (by rw [Ms_set i1, Ms_set hj])
            rw [ei]
            exact (base H2 sm).unslot i1 none
      · rw [if_neg c2] at p
        exact (show False from p).elim
    · rw [if_neg hc] at p
      have hr : u ∈ r := by
        rcases List.mem_cons.mp hu with rfl | h
        · exact absurd eu hc
        · exact h
      refine ⟨false, by rw [eC]; exact hn u hr, fun _ => ih p, fun z => nomatch z⟩
theorem ss_tryC {ct : Str → Option Addr} {H0 : Hp} {hid ioA : List Addr} {io : List Nat} {h0 : ExceptHandler} {hds : List ExceptHandler} {l : List TC} (hN : X.N.Nodup) (hs : X.stack = X.env :: X.outer) (hf : X.env.frame = some X.env.locals) (tk : Takes X W) (ok : TcOk X.K ct io l)
    (hb : ∀ (H1 : Hp) (W1 : WX) (pn : List (Addr × Obj)) (xe : Value → Shared → Prop), Takes (X.tr pn xe) W1 → PassesOwn (model X.prog X.w) X.A X.env xe → SSs (X.tr pn xe) ⟨ct, H1, hid, io, ioA⟩ W1 io body io [] false fb)
    (hh : ClsOk X (h0 :: hds) (l.map tcCl)) : SS X ⟨ct, H0, hid, io, ioA⟩ W io (.Try body (h0 :: hds) [] [] pos) io Γb fr (mTryC (l.map tcK) fb) := ⟨⟨fun pins s σ H Dn I ⟨ρ, S, p⟩ => by
  refine (ps_tryC (tb := fun W1 => tS X.K ⟨ct, H, hid, io, ioA⟩ W1 io io [] false fb) hs hf hN tk (fun W1 pn xe t1 t2 => (hb H W1 pn xe t1 t2).ps) hh).run pins s σ H Dn I ⟨ρ, S.outer, ?_⟩
  unfold mTryC at p
  cases q : fb ρ with
  | bad => rw [q] at p; exact (show False from p).elim
  | ok fl ρ' =>
    rw [q] at p
    cases fl with
    | nx => exact fun σ' H' S' k' => p σ' H' (S.inner S').1 k'
    | _ => exact (show False from p).elim
  | exn e ρ' =>
    rw [q] at p
    exact fun cls od σ' H' xr S' => tc_take S S' xr ok p⟩⟩
end
end Ip
set_option maxHeartbeats 1000000
namespace Ip
open PySem L2 PySem.Spec PyProof.Rows
section
variable {X : Cx} {i : Nat} {a : Addr} {e : Expr} {k : Bool} {x y : Str} {j j2 kk : Nat} {p p1 p2 tp cp pos : Pos}
/-- in a suite: ('x', 'y')[int(b)] -/
theorem sx_pick (h : SX X i a e (.bl k)) (hm : X.mg "int" = none) (hg : Gl X "int" := by rfl) (he : starEach [e] X.env = (false, eval e X.env) :: starEach [] X.env := by rfl) :
    SX X i a (.Subscript (.Tuple [.Constant (.str x) j p1, .Constant (.str y) j2 p2] kk tp) (.Call (.Name "int" p) [e] [] cp) pos) (.str (if k then y else x)) := ⟨peImp
  (pe_ix ix_seq (pe_tup (pa_cons pe_str (pa_cons pe_str pa_nil))) (pe_callTy call_int1 hg hm (by decide +kernel) (pa_cons h.pe pa_nil he) (by decide) (by decide) he) fun _ _ => rfl) fun σ H Q ⟨q1, q2⟩ => by
    refine ⟨by show 2 ≤ sizeLine; decide, fun q hq => ⟨q1, fun H2 sm => .inr ⟨k, rfl, .inr (.inl ⟨q, [.str x, .str y], _, .str (if k then y else x), rfl, rfl, .of (sm _ _ upd_same), ?_, q2 H2 ((same_upd hq).trans sm)⟩)⟩⟩⟩
    cases k <;> rfl⟩
end
def tcB (io : List Nat) (t : TC) : Bool := !io.contains t.j && (match t.i with
  | none => true
  | some k => !io.contains k && k != t.j)
theorem tcOk_cons {K : PySem.W.Frag} {ct : Str → Option Addr} {io : List Nat} {t : TC} {r : List TC} (h1 : ct t.cn = some t.Cc) (m1 : PySem.W.exmOne K (.ref t.Cc) (.ref t.Cc) = some true) (n1 : ∀ u ∈ r, PySem.W.exmOne K (.ref u.Cc) (.ref t.Cc) = some false)
    (rv : ∀ A, RV ⟨K, ct⟩ A t.d t.v) (h : TcOk K ct io r) (b : tcB io t = true := by rfl) : TcOk K ct io (t :: r) := by
  unfold tcB at b
  simp only [Bool.and_eq_true, Bool.not_eq_true', List.contains_eq_mem, decide_eq_false_iff_not] at b
  refine .cons h1 m1 n1 rv b.1 (fun k hk => ?_) h
  have e : t.i = some k := hk
  have b2 := b.2
  rw [e] at b2
  simp only [Bool.and_eq_true, Bool.not_eq_true', decide_eq_false_iff_not, bne_iff_ne] at b2
  exact b2
theorem no_later {K : PySem.W.Frag} {c : Addr} : ∀ u ∈ ([] : List TC), PySem.W.exmOne K (.ref u.Cc) (.ref c) = some false := fun _ z => nomatch z
theorem one_later {K : PySem.W.Frag} {c : Addr} {t : TC} {r : List TC} (h : PySem.W.exmOne K (.ref t.Cc) (.ref c) = some false) (hr : ∀ u ∈ r, PySem.W.exmOne K (.ref u.Cc) (.ref c) = some false) : ∀ u ∈ t :: r, PySem.W.exmOne K (.ref u.Cc) (.ref c) = some false := fun u hu => by
  rcases List.mem_cons.mp hu with rfl | hu
  · exact h
  · exact hr u hu
def fuelI (i : Nat) (ρ : Env) : Nat := match ρ.getD i none with
  | some (.int n) => n.toNat + 1
  | _ => 0
end Ip
set_option maxHeartbeats 1000000
namespace Ip
open PySem L2
section
variable {E : Ex → Env → Prop} {ρ : Env} {f h : Env → R D} {c : Env → R Bool} {body fs : Env → R Fl} {P : D → Env → Prop} {PS : Fl → Env → Prop}
/-! ## rules for while, divmod, several clauses and others -/
theorem w_while {n : Env → Nat} (w : wpx E (whileL c body (n ρ) ρ) PS) : wpx E (mWhile n c body ρ) PS := w
/-- what follows a turn -/
def wtn (E : Ex → Env → Prop) (c : Env → R Bool) (body : Env → R Fl) (k : Nat) (PS : Fl → Env → Prop) : Fl → Env → Prop
  | .nx, ρ => wpx E (whileL c body k ρ) PS
  | .ct, ρ => wpx E (whileL c body k ρ) PS
  | .bk, ρ => PS .nx ρ
  | .rt d, ρ => PS (.rt d) ρ
theorem t_nx {k : Nat} (w : wpx E (whileL c body k ρ) PS) : wtn E c body k PS .nx ρ := w
theorem t_ct {k : Nat} (w : wpx E (whileL c body k ρ) PS) : wtn E c body k PS .ct ρ := w
theorem t_bk {k : Nat} (w : PS .nx ρ) : wtn E c body k PS .bk ρ := w
theorem t_rt {k : Nat} {d : D} (w : PS (.rt d) ρ) : wtn E c body k PS (.rt d) ρ := w
theorem w_turn {k : Nat} (w : wpx E (c ρ) fun b ρ1 => if b = true then wpx E (body ρ1) (wtn E c body k PS) else PS .nx ρ1) : wpx E (whileL c body (k + 1) ρ) PS := by
  unfold whileL
  cases q : c ρ with
  | bad => rw [q] at w; exact w
  | exn e ρ1 => rw [q] at w; exact w
  | ok b ρ1 =>
    rw [q] at w
    cases b with
    | false => exact w
    | true =>
      have w : wpx E (body ρ1) _ := w
      dsimp only
      cases q2 : body ρ1 with
      | bad => rw [q2] at w; exact w
      | exn e ρ2 => rw [q2] at w; exact w
      | ok fl ρ2 =>
        rw [q2] at w
        cases fl with
        | nx => exact w
        | ct => exact w
        | bk => exact w
        | rt d => exact w
theorem w_tryC {l : List (Str × Option Nat × Nat × D)} (w : wpx (fun e ρ1 => wpx E (pickC l e ρ1) PS) (fs ρ) fun fl ρ1 => fl = .nx ∧ PS .nx ρ1) : wpx E (mTryC l fs ρ) PS := by
  unfold mTryC
  cases q : fs ρ with
  | bad => rw [q] at w; exact w
  | exn e ρ1 => rw [q] at w; exact w
  | ok fl ρ1 =>
    rw [q] at w
    obtain ⟨rfl, w⟩ := w
    exact w
theorem w_pick {cn : Str} {i : Option Nat} {j : Nat} {d : D} {r : List (Str × Option Nat × Nat × D)} {e : Ex} (h1 : e.cls = cn) (h2 : e.fld.isNone = true ∧ j < ρ.length ∧ ∀ k ∈ i, k < ρ.length) (w : PS .nx (clr i (ρ.set j (some d)))) : wpx E (pickC ((cn, i, j, d) :: r) e ρ) PS := by
  unfold pickC
  rw [if_pos h1, if_pos h2]
  exact w
theorem w_skip {cn : Str} {i : Option Nat} {j : Nat} {d : D} {r : List (Str × Option Nat × Nat × D)} {e : Ex} (h1 : e.cls ≠ cn) (w : wpx E (pickC r e ρ) PS) : wpx E (pickC ((cn, i, j, d) :: r) e ρ) PS := by
  show wpx E (if e.cls = cn then _ else pickC r e ρ) PS
  rw [if_neg h1]
  exact w
theorem w_joinRev (w : wpx E (f ρ) fun d ρ1 => ∃ s, d = .str s ∧ wpx E (h ρ1) fun x ρ2 => wo (oJoinRev s x) ρ2 P) : wpx E (mJoinRev f h ρ) P := wp_bind (wp_imp w fun d ρ1 ⟨s, e, w1⟩ => by subst e; exact wp_bind (wp_imp w1 fun ds ρ2 w2 => wo_ofO w2))
theorem o_divmod {i j : Int} (h : 0 < j ∧ j < 1073741824) (w : P (.tup [.int (i / j), .int (i % j)]) ρ) : wo (oDivmod [.int i, .int j]) ρ P := o_some (show ifO _ _ = _ from if_pos h) w
theorem o_joinRev {ls : List (List Nat)} (h : ls.flatten.length ≤ 2 ^ 24) (w : P (.str (S ls.reverse.flatten)) ρ) : wo (oJoinRev (S []) (.lst (ls.map fun l => D.str (S l)))) ρ P := o_some (d := .str (S ls.reverse.flatten)) (by
  unfold oJoinRev
  dsimp only
  rw [dStrs_map]
  have e : ((ls.map S).map (·.length)).sum + (ls.map S).length * (S []).length ≤ 16777216 := by
    rw [sum_len, S_len]
    simpa using h
  show ifO _ _ = _
  unfold ifO
  rw [if_pos e, ← List.map_reverse, joinE]) w
theorem o_inI {i : Int} {ns : List Int} (w : P (.bl (ns.contains i)) ρ) : wo (inID (.int i) (.lst (ns.map D.int))) ρ P := o_some (d := .bl (ns.contains i)) (by
  show (dInts (ns.map D.int)).map _ = _
  rw [ints_map]; rfl) w
/-! ### find of one sign -/
theorem sub_one {l : List Nat} {c i : Nat} (h : Builtin.Str.subAt (S l) (S [c]) i = true) : l[i]? = some c := by
  unfold Builtin.Str.subAt S at h
  have h := eq_of_beq h
  have h2 := congrArg (fun a : Array Nat => a[0]?) h
  simp only at h2
  rw [Array.getElem?_extract] at h2
  simp at h2
  exact h2.2
theorem find_at {l : List Nat} {c : Nat} (h : c ∈ l) : ∃ i : Nat, Txt.find (S l) (S [c]) = i ∧ l[i]? = some c := by
  have f := PySem.StrLaws.found_one (S l) c
  rw [S_list, decide_eq_true h] at f
  unfold Txt.find
  have e : (⟨#[c]⟩ : Str) = S [c] := rfl
  rw [e] at f
  cases q : Builtin.Str.occurrences (S l) (S [c]) 0 (S l).length 1 with
  | nil => rw [q] at f; cases f
  | cons i r =>
    refine ⟨i, rfl, ?_⟩
    obtain ⟨_, z⟩ := PySem.StrLaws.occ_spec (S l) (S [c]) 0 (S l).length 1 i (by rw [q]; exact List.mem_cons_self)
    exact sub_one z
theorem at_once {l : List Nat} (hn : l.Nodup) {i j c : Nat} (h1 : l[i]? = some c) (h2 : l[j]? = some c) : i = j := by
  have no : ∀ {i j : Nat}, l[i]? = some c → l[j]? = some c → ¬ i < j := fun {i j} h1 h2 lt => nodup_take hn h2 (List.mem_of_getElem? (i := i) (by rw [List.getElem?_take_of_lt lt]; exact h1))
  have := no h1 h2
  have := no h2 h1
  omega
theorem at_idx {l : List Nat} {c : Nat} (h : c ∈ l) : l[l.idxOf c]? = some c := by
  rw [List.getElem?_eq_getElem (List.idxOf_lt_length_of_mem h)]
  simp
theorem find_idx {l : List Nat} (hn : l.Nodup) {c : Nat} (h : c ∈ l) : Txt.find (S l) (S [c]) = (l.idxOf c : Nat) := by
  obtain ⟨i, e, h1⟩ := find_at h
  rw [e, at_once hn h1 (at_idx h)]
theorem o_find {l : List Nat} (hn : l.Nodup) {c : Nat} (h : c ∈ l) (w : P (.int (l.idxOf c : Nat)) ρ) : wo (oFind (S l) [.str (S [c])]) ρ P := o_some (show some (D.int (Txt.find (S l) (S [c]))) = _ by rw [find_idx hn h]) w
/-! ### text * int -/
theorem mul_list (l : List Nat) (n : Nat) : Txt.mul (S l) n = S (List.replicate n l).flatten := by
  have key : ∀ (n : Nat) (a : Array Nat), (List.replicate n l.toArray).foldl (· ++ ·) a = a ++ (List.replicate n l).flatten.toArray := by
    intro n
    induction n with
    | zero => intro a; simp
    | succ n ih =>
      intro a
      rw [List.replicate_succ, List.foldl_cons, ih, List.replicate_succ, List.flatten_cons]
      apply Array.ext'
      simp
  unfold Txt.mul
  by_cases h : (n : Int) < 1
  · rw [if_pos h]
    have : n = 0 := by omega
    subst this
    rfl
  · rw [if_neg h]
    unfold S
    congr 1
    rw [show ((n : Int)).toNat = n from rfl, key]
    simp
    intro q
    rcases q with q | q
    · have : n = 1 := by omega
      subst this
      simp
    · have q : l.toArray.size = 0 := q
      have : l = [] := by simpa using q
      subst this
      simp
theorem o_mulS {l : List Nat} {n : Nat} (h1 : l.length ≤ 4096) (h2 : n ≤ 4096) (w : P (.str (S (List.replicate n l).flatten)) ρ) : wo (mulS (.str (S l)) (.int n)) ρ P := o_some (d := .str (S (List.replicate n l).flatten)) (by
  show ifO _ _ = _
  unfold ifO
  rw [if_pos ⟨by rw [S_len]; exact h1, by omega, by omega⟩, mul_list]) w
end
/-! ### lists of ints in order -/
/-- the first difference is upwards -/
def upLt : List Int → List Int → Bool
  | x :: xs, y :: ys => decide (x < y) || (decide (x = y) && upLt xs ys)
  | _, _ => false
open PySem.W PySem.SeqAt PyProof.Rows in
theorem data_lt : ∀ (xs ys : List Int), upLt xs ys = true → xs.length = ys.length → PyProof.Rows.lexLt itemOrd (keyToksAll (xs.map PyData.int)) (keyToksAll (ys.map PyData.int)) = true
  | [], _, h, _ => by cases h
  | _ :: _, [], h, _ => by cases h
  | x :: xs, y :: ys, h, hl => by
    rw [List.map_cons, List.map_cons, toks_all_cons, toks_all_cons, lex_self (O := itemOrd)]
    simp only [keyToks, List.cons_append, List.nil_append]
    unfold upLt at h
    by_cases q : x < y
    · have ne : (Sum.inl x : Int ⊕ List Nat) ≠ Sum.inl y := fun z => by cases z; omega
      rw [lex_diff (O := itemOrd) ne]
      show decide (x < y) = true
      exact decide_eq_true q
    · rw [decide_eq_false q, Bool.false_or, Bool.and_eq_true, decide_eq_true_eq] at h
      obtain ⟨rfl, h⟩ := h
      rw [lex_self (O := itemOrd)]
      exact data_lt xs ys h (by simpa using hl)
theorem toPys_ints : ∀ xs : List Int, toPys (xs.map D.int) = some (xs.map PyData.int)
  | [] => rfl
  | x :: xs => by
    rw [List.map_cons, List.map_cons]
    unfold toPys
    rw [toPys_ints xs]
    rfl
theorem alike_ints : ∀ xs ys : List Int, PySem.W.alikeAll (xs.map PyData.int) (ys.map PyData.int) = true
  | [], _ => by unfold PySem.W.alikeAll; rfl
  | _ :: _, [] => by unfold PySem.W.alikeAll; rfl
  | x :: xs, y :: ys => by
    rw [List.map_cons, List.map_cons]
    unfold PySem.W.alikeAll
    rw [alike_ints xs ys]
    simp [PySem.W.alike]
theorem depth_ints : ∀ xs : List Int, PyData.depthAll (xs.map PyData.int) ≤ 1
  | [] => by decide
  | x :: xs => by
    rw [List.map_cons]
    unfold PyData.depthAll
    have := depth_ints xs
    have e : (PyData.int x).depth ≤ 1 := by unfold PyData.depth; omega
    omega
theorem o_ltL {P : D → Env → Prop} {ρ : Env} {xs ys : List Int} (h : upLt xs ys = true) (hl : xs.length = ys.length) (w : P (.bl true) ρ) : wo (ltLD (.lst (xs.map D.int)) (.lst (ys.map D.int))) ρ P := o_some (d := .bl true) (by
  unfold ltLD
  have e : ∀ zs : List Int, toPy (.lst (zs.map D.int)) = some (.list (zs.map PyData.int)) := by
    intro zs
    unfold toPy
    rw [toPys_ints]
    rfl
  rw [e, e]
  dsimp only
  have d1 : (PyData.list (xs.map PyData.int)).depth ≤ 60 := by
    unfold PyData.depth
    have := depth_ints xs
    omega
  have a1 : PySem.W.alike (.list (xs.map PyData.int)) (.list (ys.map PyData.int)) = true := by
    unfold PySem.W.alike
    exact alike_ints xs ys
  unfold ifO
  rw [if_pos ⟨a1, d1⟩, PySem.W.dataLt_list, data_lt xs ys h hl]) w
end Ip
set_option maxHeartbeats 4000000
namespace Wk31
open PySem L2 PySem.Spec PyProof.Rows Ip
/-! ## the text -/
def top (i : Nat) : Stmt := PySem.Challenge.pw_madeanew_k31_worths_and_widths.main.body.getD i (.Pass ⟨0, 0, 0, 0⟩)
structure Blt (mg : Str → Option Value) : Prop where
  n_abs : mg "abs" = none
  n_bool : mg "bool" = none
  n_dict : mg "dict" = none
  n_divmod : mg "divmod" = none
  n_enumerate : mg "enumerate" = none
  n_int : mg "int" = none
  n_isinstance : mg "isinstance" = none
  n_len : mg "len" = none
  n_list : mg "list" = none
  n_max : mg "max" = none
  n_min : mg "min" = none
  n_range : mg "range" = none
  n_reversed : mg "reversed" = none
  n_str : mg "str" = none
  n_sum : mg "sum" = none
  n_tuple : mg "tuple" = none
/-! ### _law_pool -/
abbrev s_law_pool : Stmt := top 18
abbrev N_law_pool : List Str := ["_law_script", "_law_at"]
abbrev P_law_pool : List Str := ["_law_script", "_law_at"]
def m_law_pool : Ip.Env → R Fl := (mSeq (mIfS (mTest (m2 ltD (mPair (mVar 1) (mArg oLen (mCons (mVar 0) mNil))))) (mRet (mLst (mCons (mArg oAbs (mCons (m2 ixD (mPair (mVar 0) (mVar 1))) mNil)) (mCons (m2 mulD (mPair (mC (.int 1000)) (mVar 1))) mNil)))) mNx) (mRet (mLst (mCons (m2 addD (mPair (m2 modD (mPair (mArg oInt (mCons (mArg oSum (mCons (mCutL 1 (mVar 0)) mNil)) mNil)) (mC (.int 1000003)))) (m2 mulD (mPair (mC (.int 104729)) (mVar 1))))) (mCons (m2 mulD (mPair (mC (.int 1000)) (mVar 1))) mNil)))))
def F_law_pool : FSem := fnSem 2 [] m_law_pool
/-! ### _law_draw -/
abbrev s_law_draw : Stmt := top 19
abbrev N_law_draw : List Str := ["_law_pool_here", "_law_many", "_law_drawn", "_law_mixed"]
abbrev P_law_draw : List Str := ["_law_pool_here", "_law_many"]
def m_law_draw : Ip.Env → R Fl := (mSeq (mIfS (mTest (m2 geD (mPair (m2 ixD (mPairO 0 (mC (.int 0)))) (m2 powD (mPair (mC (.int 10)) (mC (.int 18))))))) (mSeq (mSet 2 (m2 modD (mPair (mArg oInt (mCons (m2 ixD (mPairO 0 (mC (.int 0)))) mNil)) (mVar 1)))) (mSeq (mAsg (m2 fdivD (mPair (m2 ixD (mPairO 0 (mC (.int 0)))) (mVar 1))) (gIx 0 (mC (.int 0)))) (mRet (mVar 2)))) mNx) (mSeq (mAsg (m2 addD (mPair (m2 ixD (mPairO 0 (mC (.int 1)))) (mC (.int 1)))) (gIx 0 (mC (.int 1)))) (mSeq (mSet 3 (m2 modD (mPair (mArg oInt (mCons (m2 mulD (mPair (m2 addD (mPair (m2 addD (mPair (m2 ixD (mPairO 0 (mC (.int 0)))) (m2 mulD (mPair (mC (.int 7919)) (m2 ixD (mPairO 0 (mC (.int 1)))))))) (mC (.int 1)))) (mC (.int 48271)))) mNil)) (mC (.int 2147483647))))) (mSeq (mSet 3 (m2 modD (mPair (mArg oInt (mCons (m2 mulD (mPair (mVar 3) (m2 addD (mPair (m2 fdivD (mPair (mVar 3) (mC (.int 1009)))) (mC (.int 69621)))))) mNil)) (mC (.int 2147483647))))) (mSeq (mSet 3 (m2 modD (mPair (mArg oInt (mCons (m2 mulD (mPair (mVar 3) (m2 addD (mPair (m2 fdivD (mPair (mVar 3) (mC (.int 2003)))) (mC (.int 40692)))))) mNil)) (mC (.int 2147483399))))) (mRet (m2 modD (mPair (mArg oInt (mCons (m2 fdivD (mPair (mVar 3) (mC (.int 16)))) mNil)) (mVar 1)))))))))
def F_law_draw : FSem := fnSem 4 [0] m_law_draw
/-! ### _law_signs -/
abbrev s_law_signs : Stmt := top 22
abbrev N_law_signs : List Str := ["_law_pool_here", "_law_many", "_law_rest", "_law_found", "_law_k"]
abbrev P_law_signs : List Str := ["_law_pool_here", "_law_many"]
def m_law_signs : Ip.Env → R Fl := (mSeq (mSetO 2 (mArg oListS (mCons (mC (.str " !\"#$&'()*+,-./0123456789:;<=>?@ABCDEFGHIJKLMNOPQRSTUVWXYZ[")) mNil))) (mSeq (mSetO 2 (m2 catD (mPairO 2 (mArg oListS (mCons (mC (.str "\\]^_`abcdefghijklmnopqrstuvwxyz{|}~")) mNil))))) (mSeq (mSet 3 (mC (.str ""))) (mSeq (mFor (mArgI asR1 (mCons (mVar 1) mNil)) (gNm 4) (mSet 3 (m2 addD (mPair (mVar 3) (mLstM 2 stPopAt (mCons (mCall1 F_law_draw 0 0 (mIo (mCons (mArg oLen (mOwn 2 mNil)) mNil))) mNil)))))) (mRet (mVar 3))))))
def F_law_signs : FSem := fnSem 5 [0] m_law_signs
/-! ### _law_power -/
abbrev s_law_power : Stmt := top 24
abbrev N_law_power : List Str := ["_law_base", "_law_many", "_law_power_here", "_law_k"]
abbrev P_law_power : List Str := ["_law_base", "_law_many"]
def m_law_power : Ip.Env → R Fl := (mSeq (mSet 2 (mC (.int 1))) (mSeq (mFor (mArgI asR1 (mCons (mVar 1) mNil)) (gNm 3) (mSet 2 (m2 mulD (mPair (mVar 2) (mVar 0))))) (mRet (mVar 2))))
def F_law_power : FSem := fnSem 4 [] m_law_power
/-! ### are_signs -/
abbrev s_are_signs : Stmt := top 8
abbrev N_are_signs : List Str := ["thing", "index", "sign"]
abbrev P_are_signs : List Str := ["thing"]
def m_are_signs : Ip.Env → R Fl := (mSeq (mIfS (mOr (mNot (mTest (mUn (isiD "str") (mVar 0)))) (mNot (mTest (mChain leD leD (mC (.int 1)) (mArg oLen (mCons (mVar 0) mNil)) (mC (.int 8)))))) (mRet (mC (.bl false))) mNx) (mSeq (mFor (mEnumS (mVar 0)) (gTp 2 (gsCons (gNm 1) (gsCons (gNm 2) gsNil))) (mIfS (mOr (mNot (mTest (mChain leD leD (mC (.str " ")) (mVar 2) (mC (.str "~"))))) (mTest (m2 inD (mPair (mVar 2) (mSlice (mVar 0) mONone (mOSome (mVar 1))))))) (mRet (mC (.bl false))) mNx)) (mRet (mC (.bl true)))))
def F_are_signs : FSem := fnSem 3 [] m_are_signs
/-! ### is_of_signs -/
abbrev s_is_of_signs : Stmt := top 9
abbrev N_is_of_signs : List Str := ["thing", "signs", "sign"]
abbrev P_is_of_signs : List Str := ["thing", "signs"]
def m_is_of_signs : Ip.Env → R Fl := (mSeq (mIfS (mNot (mTest (mUn (isiD "str") (mVar 0)))) (mRet (mC (.bl false))) mNx) (mSeq (mFor (mSeqI (mVar 0)) (gNm 2) (mIfS (mTest (m2 notInD (mPair (mVar 2) (mVar 1)))) (mRet (mC (.bl false))) mNx)) (mRet (mC (.bl true)))))
def F_is_of_signs : FSem := fnSem 3 [] m_is_of_signs
/-! ### check_text -/
abbrev s_check_text : Stmt := top 13
abbrev N_check_text : List Str := ["signs", "text"]
abbrev P_check_text : List Str := ["signs", "text"]
def m_check_text : Ip.Env → R Fl := (mSeq (mIfS (mNot (mTest (mCall0 F_are_signs (mCons (mVar 0) mNil)))) (mRaise "NoSigns") mNx) (mIfS (mNot (mTest (mCall0 F_is_of_signs (mCons (mVar 1) (mCons (mVar 0) mNil))))) (mRaise "NoText") mNx))
def F_check_text : FSem := fnSem 2 [] m_check_text
/-! ### text_worth -/
abbrev s_text_worth : Stmt := top 14
abbrev N_text_worth : List Str := ["signs", "text", "worth", "sign"]
abbrev P_text_worth : List Str := ["signs", "text"]
def m_text_worth : Ip.Env → R Fl := (mSeq (mSet 2 (mC (.int 0))) (mSeq (mFor (mSeqI (mVar 1)) (gNm 3) (mSet 2 (m2 addD (mPair (m2 addD (mPair (m2 mulD (mPair (mVar 2) (m2 addD (mPair (mArg oLen (mCons (mVar 0) mNil)) (mC (.int 1)))))) (mStrM oFind (mVar 0) (mCons (mVar 3) mNil)))) (mC (.int 1)))))) (mRet (mVar 2))))
def F_text_worth : FSem := fnSem 4 [] m_text_worth
/-! ### worth_of -/
abbrev s_worth_of : Stmt := top 11
abbrev N_worth_of : List Str := ["signs", "text"]
abbrev P_worth_of : List Str := ["signs", "text"]
def m_worth_of : Ip.Env → R Fl := (mSeq (mDrop (mCall0 F_check_text (mCons (mVar 0) (mCons (mVar 1) mNil)))) (mRet (mCall0 F_text_worth (mCons (mVar 0) (mCons (mVar 1) mNil)))))
def F_worth_of : FSem := fnSem 2 [] m_worth_of
/-! ### _law_is_integer -/
abbrev s_law_is_integer : Stmt := top 20
abbrev N_law_is_integer : List Str := ["_law_actual"]
abbrev P_law_is_integer : List Str := ["_law_actual"]
def m_law_is_integer : Ip.Env → R Fl := (mRet (mAndV (mUn (isiD "int") (mVar 0)) (mNotV (mUn (isiD "bool") (mVar 0)))))
def F_law_is_integer : FSem := fnSem 1 [] m_law_is_integer
/-! ### _law_exact -/
abbrev s_law_exact : Stmt := top 21
abbrev N_law_exact : List Str := ["_law_actual", "_law_due", "_law_key", "_law_k"]
abbrev P_law_exact : List Str := ["_law_actual", "_law_due"]
def m_law_exact (Fr : FSem) : Ip.Env → R Fl := (mSeq (mIfS (mTest (mUn (isiD "dict") (mVar 1))) (fun _ => .bad) mNx) (mSeq (mIfS (mOr (mTest (mUn (isiD "list") (mVar 1))) (mTest (mUn (isiD "tuple") (mVar 1)))) (mSeq (mIfS (mAnd (mTest (mUn (isiD "list") (mVar 1))) (mNot (mTest (mUn (isiD "list") (mVar 0))))) (mRet (mC (.bl false))) mNx) (mSeq (mIfS (mAnd (mTest (mUn (isiD "tuple") (mVar 1))) (mNot (mTest (mUn (isiD "tuple") (mVar 0))))) (mRet (mC (.bl false))) mNx) (mSeq (mIfS (mTest (m2 neD (mPair (mArg oLen (mCons (mVar 0) mNil)) (mArg oLen (mCons (mVar 1) mNil))))) (mRet (mC (.bl false))) mNx) (mSeq (mFor (mArgI asR1 (mCons (mArg oLen (mCons (mVar 1) mNil)) mNil)) (gNm 3) (mIfS (mNot (mTest (mCall0 Fr (mCons (m2 ixD (mPair (mVar 0) (mVar 3))) (mCons (m2 ixD (mPair (mVar 1) (mVar 3))) mNil))))) (mRet (mC (.bl false))) mNx)) (mRet (mC (.bl true))))))) mNx) (mSeq (mIfS (mTest (mUn (isiD "str") (mVar 1))) (mRet (mAndV (mUn (isiD "str") (mVar 0)) (m2 eqD (mPair (mVar 0) (mVar 1))))) mNx) (mRet (mAndV (mCall0 F_law_is_integer (mCons (mVar 0) mNil)) (m2 eqD (mPair (mVar 0) (mVar 1))))))))
def F_law_exact : Nat → FSem
  | 0 => fnSem 4 [] fun _ => .bad
  | n + 1 => fnSem 4 [] (m_law_exact (F_law_exact n))
/-! ### text_width -/
abbrev s_text_width : Stmt := top 15
abbrev N_text_width : List Str := ["signs", "text", "width", "sign"]
abbrev P_text_width : List Str := ["signs", "text"]
def m_text_width : Ip.Env → R Fl := (mSeq (mSet 2 (mC (.int 1))) (mSeq (mFor (mSeqI (mVar 1)) (gNm 3) (mSet 2 (m2 mulD (mPair (mVar 2) (m2 addD (mPair (mArg oLen (mCons (mVar 0) mNil)) (mC (.int 1)))))))) (mRet (mVar 2))))
def F_text_width : FSem := fnSem 4 [] m_text_width
/-! ### width_of -/
abbrev s_width_of : Stmt := top 12
abbrev N_width_of : List Str := ["signs", "text"]
abbrev P_width_of : List Str := ["signs", "text"]
def m_width_of : Ip.Env → R Fl := (mSeq (mDrop (mCall0 F_check_text (mCons (mVar 0) (mCons (mVar 1) mNil)))) (mRet (mCall0 F_text_width (mCons (mVar 0) (mCons (mVar 1) mNil)))))
def F_width_of : FSem := fnSem 2 [] m_width_of
/-! ### is_integer -/
abbrev s_is_integer : Stmt := top 6
abbrev N_is_integer : List Str := ["thing"]
abbrev P_is_integer : List Str := ["thing"]
def m_is_integer : Ip.Env → R Fl := (mRet (mAndV (mUn (isiD "int") (mVar 0)) (mNotV (mUn (isiD "bool") (mVar 0)))))
def F_is_integer : FSem := fnSem 1 [] m_is_integer
/-! ### text_of -/
abbrev s_text_of : Stmt := top 16
abbrev N_text_of : List Str := ["signs", "number", "found", "figure"]
abbrev P_text_of : List Str := ["signs", "number"]
def m_text_of : Ip.Env → R Fl := (mSeq (mIfS (mNot (mTest (mCall0 F_are_signs (mCons (mVar 0) mNil)))) (mRaise "NoSigns") mNx) (mSeq (mIfS (mOr (mNot (mTest (mCall0 F_is_integer (mCons (mVar 1) mNil)))) (mTest (m2 ltD (mPair (mVar 1) (mC (.int 0)))))) (mRaise "NoNumber") mNx) (mSeq (mSetO 2 (mLst mNil)) (mSeq (mWhile (fuelI 1) (mTest (m2 gtD (mPair (mVar 1) (mC (.int 0))))) (mSeq (mAsg (mArg oDivmod (mCons (mVar 1) (mCons (m2 addD (mPair (mArg oLen (mCons (mVar 0) mNil)) (mC (.int 1)))) mNil))) (gTp 2 (gsCons (gNm 1) (gsCons (gNm 3) gsNil)))) (mSeq (mIfS (mTest (m2 eqD (mPair (mVar 3) (mC (.int 0))))) (mRet (mC .non)) mNx) (mDrop (mLstM 2 stAppend (mCons (m2 ixD (mPair (mVar 0) (m2 subD (mPair (mVar 3) (mC (.int 1)))))) mNil)))))) (mRet (mJoinRev (mC (.str "")) (mVar 2)))))))
def F_text_of : FSem := fnSem 4 [] m_text_of
/-! ### _law_long_holds -/
abbrev s_law_long_holds : Stmt := top 36
abbrev N_law_long_holds : List Str := ["_law_pool_here", "_law_signs_here", "_law_base", "_law_first", "_law_last", "_law_many", "_law_text_here", "_law_power_here", "_law_due", "_law_worth_here"]
abbrev P_law_long_holds : List Str := ["_law_pool_here", "_law_signs_here"]
def m_law_long_holds : Ip.Env → R Fl := (mSeq (mSet 2 (m2 addD (mPair (mArg oLen (mCons (mVar 1) mNil)) (mC (.int 1))))) (mSeq (mSet 3 (mCall1 F_law_draw 0 0 (mIo (mCons (mArg oLen (mCons (mVar 1) mNil)) mNil)))) (mSeq (mSet 4 (mCall1 F_law_draw 0 0 (mIo (mCons (mArg oLen (mCons (mVar 1) mNil)) mNil)))) (mSeq (mSet 5 (m2 addD (mPair (mC (.int 1900)) (mCall1 F_law_draw 0 0 (mIo (mCons (mC (.int 200)) mNil)))))) (mSeq (mSet 6 (m2 addD (mPair (m2 mulS (mPair (m2 ixD (mPair (mVar 1) (mVar 3))) (mVar 5))) (m2 ixD (mPair (mVar 1) (mVar 4)))))) (mSeq (mSet 7 (mCall0 F_law_power (mCons (mVar 2) (mCons (mVar 5) mNil)))) (mSeq (mSet 8 (m2 addD (mPair (m2 addD (mPair (m2 mulD (mPair (m2 mulD (mPair (m2 addD (mPair (mVar 3) (mC (.int 1)))) (m2 fdivD (mPair (m2 subD (mPair (mVar 7) (mC (.int 1)))) (m2 subD (mPair (mVar 2) (mC (.int 1)))))))) (mVar 2))) (mVar 4))) (mC (.int 1))))) (mSeq (mSet 9 (mCall0 F_worth_of (mCons (mVar 1) (mCons (mVar 6) mNil)))) (mSeq (mIfS (mOr (mNot (mTest (mCall0 (F_law_exact 3) (mCons (mVar 9) (mCons (mVar 8) mNil))))) (mNot (mTest (mCall0 (F_law_exact 3) (mCons (mCall0 F_width_of (mCons (mVar 1) (mCons (mVar 6) mNil))) (mCons (m2 mulD (mPair (mVar 7) (mVar 2))) mNil)))))) (mRet (mC (.bl false))) mNx) (mRet (mCall0 (F_law_exact 3) (mCons (mCall0 F_text_of (mCons (mVar 1) (mCons (mVar 9) mNil))) (mCons (mVar 6) mNil)))))))))))))
def F_law_long_holds : FSem := fnSem 10 [0] m_law_long_holds
/-! ### _law_string -/
abbrev s_law_string : Stmt := top 23
abbrev N_law_string : List Str := ["_law_pool_here", "_law_signs_here", "_law_most", "_law_found", "_law_k"]
abbrev P_law_string : List Str := ["_law_pool_here", "_law_signs_here", "_law_most"]
def m_law_string : Ip.Env → R Fl := (mSeq (mSet 3 (mC (.str ""))) (mSeq (mFor (mArgI asR1 (mCons (mCall1 F_law_draw 0 0 (mIo (mCons (m2 addD (mPair (mVar 2) (mC (.int 1)))) mNil))) mNil)) (gNm 4) (mSet 3 (m2 addD (mPair (mVar 3) (m2 ixD (mPair (mVar 1) (mCall1 F_law_draw 0 0 (mIo (mCons (mArg oLen (mCons (mVar 1) mNil)) mNil))))))))) (mRet (mVar 3))))
def F_law_string : FSem := fnSem 5 [0] m_law_string
/-! ### _law_worth -/
abbrev s_law_worth : Stmt := top 25
abbrev N_law_worth : List Str := ["_law_signs_here", "_law_text_here", "_law_worth_here", "_law_k"]
abbrev P_law_worth : List Str := ["_law_signs_here", "_law_text_here"]
def m_law_worth : Ip.Env → R Fl := (mSeq (mSet 2 (mC (.int 0))) (mSeq (mFor (mArgI asR1 (mCons (mArg oLen (mCons (mVar 1) mNil)) mNil)) (gNm 3) (mSet 2 (m2 addD (mPair (mVar 2) (m2 mulD (mPair (m2 addD (mPair (mStrM oFind (mVar 0) (mCons (m2 ixD (mPair (mVar 1) (mVar 3))) mNil)) (mC (.int 1)))) (mCall0 F_law_power (mCons (m2 addD (mPair (mArg oLen (mCons (mVar 0) mNil)) (mC (.int 1)))) (mCons (m2 subD (mPair (m2 subD (mPair (mArg oLen (mCons (mVar 1) mNil)) (mC (.int 1)))) (mVar 3))) mNil))))))))) (mRet (mVar 2))))
def F_law_worth : FSem := fnSem 4 [] m_law_worth
/-! ### _law_no_signs -/
abbrev s_law_no_signs : Stmt := top 26
abbrev N_law_no_signs : List Str := ["_law_pool_here", "_law_signs_here", "_law_kind", "_law_at"]
abbrev P_law_no_signs : List Str := ["_law_pool_here", "_law_signs_here"]
def m_law_no_signs : Ip.Env → R Fl := (mSeq (mSet 2 (mCall1 F_law_draw 0 0 (mIo (mCons (mC (.int 6)) mNil)))) (mSeq (mSet 3 (mCall1 F_law_draw 0 0 (mIo (mCons (mArg oLen (mCons (mVar 1) mNil)) mNil)))) (mSeq (mIfS (mTest (m2 eqD (mPair (mVar 2) (mC (.int 0))))) (mRet (mC (.str ""))) mNx) (mSeq (mIfS (mTest (m2 eqD (mPair (mVar 2) (mC (.int 1))))) (mRet (m2 addD (mPair (mVar 1) (m2 ixD (mPair (mVar 1) (mVar 3)))))) mNx) (mSeq (mIfS (mTest (m2 eqD (mPair (mVar 2) (mC (.int 2))))) (mRet (mCall1 F_law_signs 0 0 (mIo (mCons (mC (.int 9)) mNil)))) mNx) (mSeq (mIfS (mTest (m2 eqD (mPair (mVar 2) (mC (.int 3))))) (mRet (mArg oListS (mCons (mVar 1) mNil))) mNx) (mSeq (mIfS (mTest (m2 eqD (mPair (mVar 2) (mC (.int 4))))) (mRet (m2 ixD (mPair (mTup (mCons (mC .non) (mCons (mC (.int 5)) (mCons (mC (.bl true)) (mCons (mLst mNil) (mCons (mC (.dic [] [])) (mCons (mTup mNil) mNil))))))) (mCall1 F_law_draw 0 0 (mIo (mCons (mC (.int 6)) mNil)))))) mNx) (mRet (m2 addD (mPair (m2 addD (mPair (mSlice (mVar 1) mONone (mOSome (mVar 3))) (m2 ixD (mPair (mTup (mCons (mC (.str "\n")) (mCons (mC (.str "\t")) mNil))) (mCall1 F_law_draw 0 0 (mIo (mCons (mC (.int 2)) mNil))))))) (mSlice (mVar 1) (mOSome (m2 addD (mPair (mVar 3) (mC (.int 1))))) mONone)))))))))))
def F_law_no_signs : FSem := fnSem 4 [0] m_law_no_signs
/-! ### _law_no_text -/
abbrev s_law_no_text : Stmt := top 27
abbrev N_law_no_text : List Str := ["_law_pool_here", "_law_signs_here", "_law_text_here", "_law_kind", "_law_others", "_law_at", "_law_sign"]
abbrev P_law_no_text : List Str := ["_law_pool_here", "_law_signs_here", "_law_text_here"]
def m_law_no_text : Ip.Env → R Fl := (mSeq (mSet 3 (mCall1 F_law_draw 0 0 (mIo (mCons (mC (.int 4)) mNil)))) (mSeq (mIfS (mTest (m2 eqD (mPair (mVar 3) (mC (.int 0))))) (mRet (mArg oListS (mCons (mVar 2) mNil))) mNx) (mSeq (mIfS (mTest (m2 eqD (mPair (mVar 3) (mC (.int 1))))) (mRet (m2 ixD (mPair (mTup (mCons (mC .non) (mCons (mC (.int 0)) (mCons (mC (.bl true)) (mCons (mTup mNil) (mCons (mC (.dic [] [])) mNil)))))) (mCall1 F_law_draw 0 0 (mIo (mCons (mC (.int 5)) mNil)))))) mNx) (mSeq (mSetO 4 (mLc (mSeqI (mArg oListS (mCons (mC (.str " ~azAZ09.,;!\n\t")) mNil))) (gNm 6) (mTest (m2 notInD (mPair (mVar 6) (mVar 1)))) (mVar 6) [6])) (mSeq (mSet 5 (mCall1 F_law_draw 0 0 (mIo (mCons (m2 addD (mPair (mArg oLen (mCons (mVar 2) mNil)) (mC (.int 1)))) mNil)))) (mRet (m2 addD (mPair (m2 addD (mPair (mSlice (mVar 2) mONone (mOSome (mVar 5))) (m2 ixD (mPair (mVar 4) (mCall1 F_law_draw 0 0 (mIo (mCons (mArg oLen (mCons (mVar 4) mNil)) mNil))))))) (mSlice (mVar 2) (mOSome (mVar 5)) mONone)))))))))
def F_law_no_text : FSem := fnSem 7 [0] m_law_no_text
/-! ### _law_refusal -/
abbrev s_law_refusal : Stmt := top 28
abbrev N_law_refusal : List Str := ["_law_signs_here", "_law_text_here", "_law_way", "_law_refusal_here", "e"]
abbrev P_law_refusal : List Str := ["_law_signs_here", "_law_text_here", "_law_way"]
def m_law_refusal : Ip.Env → R Fl := (mSeq (mSet 3 (mC (.str ""))) (mSeq (mTryC [("NoSigns", some 4, 3, (.str "signs")), ("NoText", some 4, 3, (.str "text"))] (mIfS (mTest (m2 eqD (mPair (mVar 2) (mC (.int 0))))) (mDrop (mCall0 F_worth_of (mCons (mVar 0) (mCons (mVar 1) mNil)))) (mDrop (mCall0 F_width_of (mCons (mVar 0) (mCons (mVar 1) mNil)))))) (mRet (mVar 3))))
def F_law_refusal : FSem := fnSem 5 [] m_law_refusal
/-! ### _law_refuses -/
abbrev s_law_refuses : Stmt := top 29
abbrev N_law_refuses : List Str := ["_law_pool_here", "_law_signs_here", "_law_text_here", "_law_no_signs_here", "_law_no_text_here", "_law_way"]
abbrev P_law_refuses : List Str := ["_law_pool_here", "_law_signs_here", "_law_text_here"]
def m_law_refuses : Ip.Env → R Fl := (mSeq (mSet 3 (mCall1 F_law_no_signs 0 0 (mIo (mCons (mVar 1) mNil)))) (mSeq (mSet 4 (mCall1 F_law_no_text 0 0 (mIo (mCons (mVar 1) (mCons (mVar 2) mNil))))) (mSeq (mFor (mArgI asR1 (mCons (mC (.int 2)) mNil)) (gNm 5) (mSeq (mIfS (mOr (mTest (m2 neD (mPair (mCall0 F_law_refusal (mCons (mVar 3) (mCons (mVar 2) (mCons (mVar 5) mNil)))) (mC (.str "signs"))))) (mTest (m2 neD (mPair (mCall0 F_law_refusal (mCons (mVar 3) (mCons (mVar 4) (mCons (mVar 5) mNil)))) (mC (.str "signs")))))) (mRet (mC (.bl false))) mNx) (mIfS (mOr (mTest (m2 neD (mPair (mCall0 F_law_refusal (mCons (mVar 1) (mCons (mVar 4) (mCons (mVar 5) mNil)))) (mC (.str "text"))))) (mTest (m2 neD (mPair (mCall0 F_law_refusal (mCons (mVar 1) (mCons (mVar 2) (mCons (mVar 5) mNil)))) (mC (.str "")))))) (mRet (mC (.bl false))) mNx))) (mRet (mC (.bl true))))))
def F_law_refuses : FSem := fnSem 6 [0] m_law_refuses
/-! ### _law_number -/
abbrev s_law_number : Stmt := top 30
abbrev N_law_number : List Str := ["_law_pool_here", "_law_base", "_law_kind", "_law_power_here", "_law_k"]
abbrev P_law_number : List Str := ["_law_pool_here", "_law_base"]
def m_law_number : Ip.Env → R Fl := (mSeq (mSet 2 (mCall1 F_law_draw 0 0 (mIo (mCons (mC (.int 3)) mNil)))) (mSeq (mIfS (mTest (m2 eqD (mPair (mVar 2) (mC (.int 0))))) (mRet (mCall1 F_law_draw 0 0 (mIo (mCons (m2 powD (mPair (mC (.int 10)) (mC (.int 59)))) mNil)))) mNx) (mSeq (mIfS (mTest (m2 eqD (mPair (mVar 2) (mC (.int 1))))) (mRet (mCall1 F_law_draw 0 0 (mIo (mCons (mC (.int 1000)) mNil)))) mNx) (mSeq (mSet 3 (mC (.int 1))) (mSeq (mFor (mArgI asR1 (mCons (mCall1 F_law_draw 0 0 (mIo (mCons (mC (.int 40)) mNil))) mNil)) (gNm 4) (mSet 3 (m2 mulD (mPair (mVar 3) (mVar 1))))) (mRet (m2 subD (mPair (m2 subD (mPair (mVar 3) (mC (.int 1)))) (mCall1 F_law_draw 0 0 (mIo (mCons (mArg oMin (mCons (mVar 3) (mCons (mC (.int 12)) mNil))) mNil)))))))))))
def F_law_number : FSem := fnSem 5 [0] m_law_number
/-! ### _law_text -/
abbrev s_law_text : Stmt := top 31
abbrev N_law_text : List Str := ["_law_signs_here", "_law_number_here", "_law_base", "_law_figures", "_law_k", "_law_figure"]
abbrev P_law_text : List Str := ["_law_signs_here", "_law_number_here"]
def m_law_text : Ip.Env → R Fl := (mSeq (mSet 2 (m2 addD (mPair (mArg oLen (mCons (mVar 0) mNil)) (mC (.int 1))))) (mSeq (mSetO 3 (mLst mNil)) (mSeq (mFor (mArgI asR1 (mCons (mC (.int 200)) mNil)) (gNm 4) (mSeq (mIfS (mTest (m2 eqD (mPair (mVar 1) (mC (.int 0))))) (fun ρ => .ok .bk ρ) mNx) (mSeq (mDrop (mLstM 3 stAppend (mCons (m2 modD (mPair (mArg oInt (mCons (mVar 1) mNil)) (mVar 2))) mNil))) (mSet 1 (m2 fdivD (mPair (mVar 1) (mVar 2))))))) (mSeq (mIfS (mTest (m2 inID (mPairR (mC (.int 0)) 3))) (mRet (mC .non)) mNx) (mRet (mStrM oJoin (mC (.str "")) (mCons (mLc (mSeqI (mUn revD (mVar 3))) (gNm 5) mYes (m2 ixD (mPair (mVar 0) (m2 subD (mPair (mVar 5) (mC (.int 1)))))) [5]) mNil)))))))
def F_law_text : FSem := fnSem 6 [] m_law_text
/-! ### _law_ahead -/
abbrev s_law_ahead : Stmt := top 32
abbrev N_law_ahead : List Str := ["_law_signs_here", "_law_one", "_law_other", "_law_sign"]
abbrev P_law_ahead : List Str := ["_law_signs_here", "_law_one", "_law_other"]
def m_law_ahead : Ip.Env → R Fl := (mSeq (mIfS (mTest (m2 neD (mPair (mArg oLen (mCons (mVar 1) mNil)) (mArg oLen (mCons (mVar 2) mNil))))) (mRet (m2 ltD (mPair (mArg oLen (mCons (mVar 1) mNil)) (mArg oLen (mCons (mVar 2) mNil))))) mNx) (mRet (m2 ltLD (mPair (mLc (mSeqI (mVar 1)) (gNm 3) mYes (mStrM oFind (mVar 0) (mCons (mVar 3) mNil)) [3]) (mLc (mSeqI (mVar 2)) (gNm 3) mYes (mStrM oFind (mVar 0) (mCons (mVar 3) mNil)) [3])))))
def F_law_ahead : FSem := fnSem 4 [] m_law_ahead
/-! ### _law_number_refusal -/
abbrev s_law_number_refusal : Stmt := top 33
abbrev N_law_number_refusal : List Str := ["_law_signs_here", "_law_number_here", "_law_refusal_here", "e"]
abbrev P_law_number_refusal : List Str := ["_law_signs_here", "_law_number_here"]
def m_law_number_refusal : Ip.Env → R Fl := (mSeq (mSet 2 (mC (.str ""))) (mSeq (mTryC [("NoSigns", some 3, 2, (.str "signs")), ("NoNumber", some 3, 2, (.str "number"))] (mDrop (mCall0 F_text_of (mCons (mVar 0) (mCons (mVar 1) mNil))))) (mRet (mVar 2))))
def F_law_number_refusal : FSem := fnSem 4 [] m_law_number_refusal
/-! ### _law_refuses_number -/
abbrev s_law_refuses_number : Stmt := top 34
abbrev N_law_refuses_number : List Str := ["_law_pool_here", "_law_signs_here", "_law_number_here", "_law_no_signs_here", "_law_thing"]
abbrev P_law_refuses_number : List Str := ["_law_pool_here", "_law_signs_here", "_law_number_here"]
def m_law_refuses_number : Ip.Env → R Fl := (mSeq (mSet 3 (mCall1 F_law_no_signs 0 0 (mIo (mCons (mVar 1) mNil)))) (mSeq (mSet 4 (m2 ixD (mPair (mTup (mCons (m2 subD (mPair (mUn negD (mC (.int 1))) (mVar 2))) (mCons (mUn negD (mC (.int 1))) (mCons (mC .non) (mCons (mC (.bl true)) (mCons (mC (.bl false)) (mCons (mC (.str "1")) (mCons (mLst mNil) (mCons (mTup (mCons (mC (.int 1)) mNil)) mNil))))))))) (mCall1 F_law_draw 0 0 (mIo (mCons (mC (.int 8)) mNil)))))) (mSeq (mIfS (mOr (mTest (m2 neD (mPair (mCall0 F_law_number_refusal (mCons (mVar 3) (mCons (mVar 2) mNil))) (mC (.str "signs"))))) (mTest (m2 neD (mPair (mCall0 F_law_number_refusal (mCons (mVar 3) (mCons (mVar 4) mNil))) (mC (.str "signs")))))) (mRet (mC (.bl false))) mNx) (mRet (mAndV (m2 eqD (mPair (mCall0 F_law_number_refusal (mCons (mVar 1) (mCons (mVar 4) mNil))) (mC (.str "number")))) (m2 eqD (mPair (mCall0 F_law_number_refusal (mCons (mVar 1) (mCons (mVar 2) mNil))) (mC (.str "")))))))))
def F_law_refuses_number : FSem := fnSem 5 [0] m_law_refuses_number
/-! ### _law_numbers_hold -/
abbrev s_law_numbers_hold : Stmt := top 35
abbrev N_law_numbers_hold : List Str := ["_law_turn", "_law_signs_here", "_law_number_here", "_law_last", "_law_more", "_law_found", "_law_due"]
abbrev P_law_numbers_hold : List Str := ["_law_turn", "_law_signs_here"]
def m_law_numbers_hold : Ip.Env → R Fl := (mSeq (mSet 2 (mCall1 F_law_number 0 0 (mIo (mCons (m2 addD (mPair (mArg oLen (mCons (mVar 1) mNil)) (mC (.int 1)))) mNil)))) (mSeq (mSet 3 (mC .non)) (mSeq (mFor (mArgI asR1 (mCons (mC (.int 13)) mNil)) (gNm 4) (mSeq (mSet 5 (mCall0 F_text_of (mCons (mVar 1) (mCons (m2 addD (mPair (mVar 2) (mVar 4))) mNil)))) (mSeq (mSet 6 (mCall0 F_law_text (mCons (mVar 1) (mCons (m2 addD (mPair (mVar 2) (mVar 4))) mNil)))) (mIfS (mTest (m2 isNoneD (mPair (mVar 6) (mC .non)))) (mIfS (mTest (m2 isNotNoneD (mPair (mVar 5) (mC .non)))) (mRet (mC (.bl false))) mNx) (mSeq (mIfS (mOr (mNot (mTest (mCall0 (F_law_exact 3) (mCons (mVar 5) (mCons (mVar 6) mNil))))) (mNot (mTest (mCall0 (F_law_exact 3) (mCons (mCall0 F_worth_of (mCons (mVar 1) (mCons (mVar 5) mNil))) (mCons (m2 addD (mPair (mVar 2) (mVar 4))) mNil)))))) (mRet (mC (.bl false))) mNx) (mSeq (mIfS (mAnd (mTest (m2 isNotNoneD (mPair (mVar 3) (mC .non)))) (mNot (mTest (mCall0 F_law_ahead (mCons (mVar 1) (mCons (mVar 3) (mCons (mVar 5) mNil))))))) (mRet (mC (.bl false))) mNx) (mSet 3 (mVar 5)))))))) (mRet (mCall1 F_law_refuses_number 0 0 (mIo (mCons (mVar 1) (mCons (mVar 2) mNil))))))))
def F_law_numbers_hold : FSem := fnSem 7 [0] m_law_numbers_hold
/-! ### law -/
abbrev s_law : Stmt := top 37
abbrev N_law : List Str := ["_law_script", "_law_pool_here", "_law_signs_here", "_law_joined", "_law_texts", "_law_worths", "_law_at", "_law_turn", "_law_text_here", "_law_worth_here", "_law_width", "_law_due", "_law_k"]
abbrev P_law : List Str := ["_law_script"]
def m_law : Ip.Env → R Fl := (mSeq (mSetO 1 (mCall0 F_law_pool (mCons (mVar 0) (mCons (mC (.int 0)) mNil)))) (mSeq (mSet 2 (mCall1 F_law_signs 0 1 (mIo (mCons (m2 addD (mPair (mC (.int 1)) (mCall1 F_law_draw 0 1 (mIo (mCons (mC (.int 8)) mNil))))) mNil)))) (mSeq (mIfS (mAnd (mTest (m2 eqD (mPair (mCall1 F_law_draw 0 1 (mIo (mCons (mC (.int 16)) mNil))) (mC (.int 7))))) (mNot (mTest (mCall1 F_law_long_holds 0 1 (mIo (mCons (mVar 2) mNil)))))) (mRet (mC (.bl false))) mNx) (mSeq (mSet 3 (mC (.str ""))) (mSeq (mSetO 4 (mLst (mCons (mC (.str "")) mNil))) (mSeq (mSetO 5 (mLst (mCons (mCall0 F_worth_of (mCons (mVar 2) (mCons (mC (.str "")) mNil))) mNil))) (mSeq (mIfS (mNot (mTest (mCall0 (F_law_exact 3) (mCons (mLst (mCons (m2 ixD (mPairO 5 (mC (.int 0)))) (mCons (mCall0 F_width_of (mCons (mVar 2) (mCons (mC (.str "")) mNil))) mNil))) (mCons (mLst (mCons (mC (.int 0)) (mCons (mC (.int 1)) mNil))) mNil))))) (mRet (mC (.bl false))) mNx) (mSeq (mFor (mArgI asR2 (mCons (mC (.int 1)) (mCons (mArg oMax (mCons (mC (.int 4)) (mCons (mArg oMin (mCons (mArg oLen (mCons (mVar 0) mNil)) (mCons (mC (.int 63)) mNil))) mNil))) mNil))) (gNm 6) (mSeq (mSetO 7 (mCall0 F_law_pool (mCons (mVar 0) (mCons (mVar 6) mNil)))) (mSeq (mSet 8 (mCall1 F_law_string 0 7 (mIo (mCons (mVar 2) (mCons (mC (.int 24)) mNil))))) (mSeq (mSet 9 (mCall0 F_worth_of (mCons (mVar 2) (mCons (mVar 8) mNil)))) (mSeq (mSet 10 (mCall0 F_width_of (mCons (mVar 2) (mCons (mVar 8) mNil)))) (mSeq (mIfS (mNot (mTest (mCall0 (F_law_exact 3) (mCons (mLst (mCons (mVar 9) (mCons (mVar 10) mNil))) (mCons (mLst (mCons (mCall0 F_law_worth (mCons (mVar 2) (mCons (mVar 8) mNil))) (mCons (mCall0 F_law_power (mCons (m2 addD (mPair (mArg oLen (mCons (mVar 2) mNil)) (mC (.int 1)))) (mCons (mArg oLen (mCons (mVar 8) mNil)) mNil))) mNil))) mNil))))) (mRet (mC (.bl false))) mNx) (mSeq (mIfS (mNot (mTest (mCall0 (F_law_exact 3) (mCons (mCall0 F_text_of (mCons (mVar 2) (mCons (mVar 9) mNil))) (mCons (mVar 8) mNil))))) (mRet (mC (.bl false))) mNx) (mSeq (mIfS (mTest (m2 leD (mPair (m2 addD (mPair (mArg oLen (mCons (mVar 3) mNil)) (mArg oLen (mCons (mVar 8) mNil)))) (mC (.int 120))))) (mSeq (mSet 11 (m2 addD (mPair (m2 mulD (mPair (mCall0 F_worth_of (mCons (mVar 2) (mCons (mVar 3) mNil))) (mVar 10))) (mVar 9)))) (mSeq (mIfS (mNot (mTest (mCall0 (F_law_exact 3) (mCons (mCall0 F_worth_of (mCons (mVar 2) (mCons (m2 addD (mPair (mVar 3) (mVar 8))) mNil))) (mCons (mVar 11) mNil))))) (mRet (mC (.bl false))) mNx) (mSeq (mIfS (mNot (mTest (mCall0 (F_law_exact 3) (mCons (mCall0 F_width_of (mCons (mVar 2) (mCons (m2 addD (mPair (mVar 3) (mVar 8))) mNil))) (mCons (m2 mulD (mPair (mCall0 F_width_of (mCons (mVar 2) (mCons (mVar 3) mNil))) (mVar 10))) mNil))))) (mRet (mC (.bl false))) mNx) (mSet 3 (m2 addD (mPair (mVar 3) (mVar 8))))))) mNx) (mSeq (mFor (mArgI asR1 (mCons (mArg oLen (mOwn 4 mNil)) mNil)) (gNm 12) (mIfS (mTest (m2 neD (mPair (m2 eqD (mPair (m2 ixD (mPairO 5 (mVar 12))) (mVar 9))) (m2 eqD (mPair (m2 ixD (mPairO 4 (mVar 12))) (mVar 8)))))) (mRet (mC (.bl false))) mNx)) (mSeq (mDrop (mLstM 4 stAppend (mCons (mVar 8) mNil))) (mSeq (mDrop (mLstM 5 stAppend (mCons (mVar 9) mNil))) (mSeq (mIfS (mNot (mTest (mCall1 F_law_refuses 0 7 (mIo (mCons (mVar 2) (mCons (mVar 8) mNil)))))) (mRet (mC (.bl false))) mNx) (mIfS (mAnd (mTest (m2 ltD (mPair (mVar 6) (mC (.int 40))))) (mNot (mTest (mCall1 F_law_numbers_hold 0 7 (mIo (mCons (mVar 2) mNil)))))) (mRet (mC (.bl false))) mNx))))))))))))) (mSeq (mSet 9 (mCall0 F_worth_of (mCons (mVar 2) (mCons (mVar 3) mNil)))) (mRet (mAndV (mCall0 (F_law_exact 3) (mCons (mVar 9) (mCons (mCall0 F_law_worth (mCons (mVar 2) (mCons (mVar 3) mNil))) mNil))) (mCall0 (F_law_exact 3) (mCons (mCall0 F_text_of (mCons (mVar 2) (mCons (mVar 9) mNil))) (mCons (mVar 3) mNil))))))))))))))
def F_law : FSem := fnSem 13 [] m_law
end Wk31
set_option maxHeartbeats 4000000
namespace Wk31
open PySem L2 PySem.Spec PyProof.Rows Ip
section
variable {P : Program} {w : World} {K : PySem.W.Frag} {mg : Str → Option Value} {base : Heap} {ct : Str → Option Addr}
theorem sc_law_pool : FnScope N_law_pool P_law_pool (defScope s_law_pool) := ⟨rfl, rfl, rfl, by decide +kernel, rfl, by decide +kernel, by decide +kernel⟩
theorem ok_law_pool {f : Addr} {fd : FuncData} (B : Blt mg)  (F : FunD K "_law_pool" "_law_pool" (defArgs s_law_pool) (defBody s_law_pool) (defScope s_law_pool) [] [] f fd) : FnOk P w K mg base (L2.CX P w) 1 f fd P_law_pool (spF K ct 2 [] true F_law_pool) := def_okD (k := 0) F sc_law_pool rfl fun cdv A outer s H E hid ioA hr =>
  (ss_cons (ss_if (sp_cmp2 (or_or op_lt op_lt_str) lt_ok (s2_ee (se_var 1) (se_calB call_len cal_len B.n_len (sv_cons (se_var 0) sv_nil)))) (ss_one (ss_ret (se_lst (sa_cons (se_calB call_abs cal_abs B.n_abs (sv_cons (se_ix2 ix_seq ix_ok (s2_ee (se_var 0) (se_var 1))) sv_nil)) (sa_cons (se_bin2 (or_or op_mul op_mulW) mul_ok (s2_ee (se_int (fr := false)) (se_var 1))) sa_nil))))) ss_nil) (ss_one (ss_ret (se_lst (sa_cons (se_bin2 (or_or op_add op_add_str) add_ok (s2_ee (se_bin2 op_mod mod_ok (s2_ee (se_calT call_int1 cal_int B.n_int (sv_cons (se_calB (cr_sum rfl) cal_sum B.n_sum (sv_cons (se_cutL (se_var 0)) sv_nil)) sv_nil)) (se_int (fr := false)))) (se_bin2 (or_or op_mul op_mulW) mul_ok (s2_ee (se_int (fr := false)) (se_var 1))))) (sa_cons (se_bin2 (or_or op_mul op_mulW) mul_ok (s2_ee (se_int (fr := false)) (se_var 1))) sa_nil))))))
theorem bi_law_pool {f : Addr} {fd : FuncData} (F : FunD K "_law_pool" "_law_pool" (defArgs s_law_pool) (defBody s_law_pool) (defScope s_law_pool) [] [] f fd) : Binds K fd P_law_pool [] := F.bindsN fun _ _ _ _ _ _ us hl => match us, hl with | [_, _], _ => rfl
theorem sc_worth_of : FnScope N_worth_of P_worth_of (defScope s_worth_of) := ⟨rfl, rfl, rfl, by decide +kernel, rfl, by decide +kernel, by decide +kernel⟩
theorem ok_worth_of {f : Addr} {fd : FuncData} (B : Blt mg) (h_check_text : Fn P w K mg base ct "check_text" 2 2 [] false F_check_text) (h_text_worth : Fn P w K mg base ct "text_worth" 1 2 [] false F_text_worth) (F : FunD K "worth_of" "worth_of" (defArgs s_worth_of) (defBody s_worth_of) (defScope s_worth_of) [] [] f fd) : FnOk P w K mg base (L2.CX P w) 3 f fd P_worth_of (spF K ct 2 [] false F_worth_of) := def_okD (k := 2) F sc_worth_of rfl fun cdv A outer s H E hid ioA hr =>
  (ss_cons (ss_expr (se_call0 h_check_text cx_takes (hr.mono (by decide)) (sa_cons (se_var 0) (sa_cons (se_var 1) sa_nil)))) (ss_one (ss_ret (se_call0 h_text_worth cx_takes (hr.mono (by decide)) (sa_cons (se_var 0) (sa_cons (se_var 1) sa_nil))))))
theorem bi_worth_of {f : Addr} {fd : FuncData} (F : FunD K "worth_of" "worth_of" (defArgs s_worth_of) (defBody s_worth_of) (defScope s_worth_of) [] [] f fd) : Binds K fd P_worth_of [] := F.bindsN fun _ _ _ _ _ _ us hl => match us, hl with | [_, _], _ => rfl
theorem sc_law_string : FnScope N_law_string P_law_string (defScope s_law_string) := ⟨rfl, rfl, rfl, by decide +kernel, rfl, by decide +kernel, by decide +kernel⟩
theorem ok_law_string {f : Addr} {fd : FuncData} (B : Blt mg) (h_law_draw : Fn P w K mg base ct "_law_draw" 1 2 [0] false F_law_draw) (F : FunD K "_law_string" "_law_string" (defArgs s_law_string) (defBody s_law_string) (defScope s_law_string) [] [] f fd) : FnOk P w K mg base (L2.CX P w) 2 f fd P_law_string (spF K ct 3 [0] false F_law_string) := def_okD (k := 1) F sc_law_string rfl fun cdv A outer s H E hid ioA hr =>
  (ss_cons (ss_set 3 (Γ2 := [0]) sc_law_string.nd (se_str (fr := false))) (ss_cons (ss_for cx_own rfl (si_range1 (sa_cons (se_call1 h_law_draw cx_takes (hr.mono (by decide)) (sa_io 0 (sa_cons (se_bin2 (or_or op_add op_add_str) add_ok (s2_ee (se_var 2) (se_int (fr := false)))) sa_nil))) sa_nil) B.n_range) (sg_name 4 sc_law_string.nd) (ss_one (ss_set 3 (Γ2 := [0]) sc_law_string.nd (se_bin2 (or_or op_add op_add_str) add_ok (s2_ee (se_var 3) (se_ix2 ix_seq ix_ok (s2_ee (se_var 1) (se_call1 h_law_draw cx_takes (hr.mono (by decide)) (sa_io 0 (sa_cons (se_calB call_len cal_len B.n_len (sv_cons (se_var 1) sv_nil)) sa_nil)))))))))) (ss_one (ss_ret (se_var 3)))))
theorem bi_law_string {f : Addr} {fd : FuncData} (F : FunD K "_law_string" "_law_string" (defArgs s_law_string) (defBody s_law_string) (defScope s_law_string) [] [] f fd) : Binds K fd P_law_string [] := F.bindsN fun _ _ _ _ _ _ us hl => match us, hl with | [_, _, _], _ => rfl
theorem sc_law_ahead : FnScope N_law_ahead P_law_ahead (defScope s_law_ahead) := ⟨rfl, rfl, rfl, by decide +kernel, rfl, by decide +kernel, by decide +kernel⟩
theorem ok_law_ahead {f : Addr} {fd : FuncData} (B : Blt mg)  (F : FunD K "_law_ahead" "_law_ahead" (defArgs s_law_ahead) (defBody s_law_ahead) (defScope s_law_ahead) [] [] f fd) : FnOk P w K mg base (L2.CX P w) 1 f fd P_law_ahead (spF K ct 3 [] false F_law_ahead) := def_okD (k := 0) F sc_law_ahead rfl fun cdv A outer s H E hid ioA hr =>
  (ss_cons (ss_if (sp_cmp2 (op_neD (room64 hr)) ne_ok (s2_ee (se_calB call_len cal_len B.n_len (sv_cons (se_var 1) sv_nil)) (se_calB call_len cal_len B.n_len (sv_cons (se_var 2) sv_nil)))) (ss_one (ss_ret (se_cmp2 (or_or op_lt op_lt_str) lt_ok (s2_ee (se_calB call_len cal_len B.n_len (sv_cons (se_var 1) sv_nil)) (se_calB call_len cal_len B.n_len (sv_cons (se_var 2) sv_nil)))))) ss_nil) (ss_one (ss_ret (se_cmp2 (op_ltL (room64 hr)) ltL_ok (s2_ee (se_lc rfl sc_law_ahead.nd (blkOk_by (own := [("_law_sign", 3)]) (by show blkC N_law_ahead (defScope s_law_ahead) _ _ = true; decide +kernel)) (si_seq (se_var 1)) (fun _ _ _ _ _ => (sg_name 3 sc_law_ahead.nd)) (fun _ _ _ _ _ => sps_nil) (fun _ _ _ _ _ => (se_strM PySem.F.slot_str_find PySem.F.type_str_find mt_find find_ok (se_var 0) (sv_cons (se_var 3) sv_nil)))) (se_lc rfl sc_law_ahead.nd (blkOk_by (own := [("_law_sign", 3)]) (by show blkC N_law_ahead (defScope s_law_ahead) _ _ = true; decide +kernel)) (si_seq (se_var 2)) (fun _ _ _ _ _ => (sg_name 3 sc_law_ahead.nd)) (fun _ _ _ _ _ => sps_nil) (fun _ _ _ _ _ => (se_strM PySem.F.slot_str_find PySem.F.type_str_find mt_find find_ok (se_var 0) (sv_cons (se_var 3) sv_nil)))))))))
theorem bi_law_ahead {f : Addr} {fd : FuncData} (F : FunD K "_law_ahead" "_law_ahead" (defArgs s_law_ahead) (defBody s_law_ahead) (defScope s_law_ahead) [] [] f fd) : Binds K fd P_law_ahead [] := F.bindsN fun _ _ _ _ _ _ us hl => match us, hl with | [_, _, _], _ => rfl
end
end Wk31
set_option maxHeartbeats 4000000
namespace Wk31
open PySem L2 PySem.Spec PyProof.Rows Ip
section
variable {P : Program} {w : World} {K : PySem.W.Frag} {mg : Str → Option Value} {base : Heap} {ct : Str → Option Addr}
theorem sc_law_draw : FnScope N_law_draw P_law_draw (defScope s_law_draw) := ⟨rfl, rfl, rfl, by decide +kernel, rfl, by decide +kernel, by decide +kernel⟩
theorem ok_law_draw {f : Addr} {fd : FuncData} (B : Blt mg)  (F : FunD K "_law_draw" "_law_draw" (defArgs s_law_draw) (defBody s_law_draw) (defScope s_law_draw) [] [] f fd) : FnOk P w K mg base (L2.CX P w) 1 f fd P_law_draw (spF K ct 2 [0] false F_law_draw) := def_okD (k := 0) F sc_law_draw rfl fun cdv A outer s H E hid ioA hr =>
  (ss_cons (ss_if (sp_cmp2 (or_or op_ge op_ge_str) ge_ok (s2_ee (se_ix2 ix_seq ix_ok (s2_oe 0 (se_int (fr := false)))) (se_bin2 op_pow pow_ok (s2_ee (se_int (fr := false)) (se_int (fr := false)))))) (ss_cons (ss_set 2 (Γ2 := [0]) sc_law_draw.nd (se_bin2 op_mod mod_ok (s2_ee (se_calT call_int1 cal_int B.n_int (sv_cons (se_ix2 ix_seq ix_ok (s2_oe 0 (se_int (fr := false)))) sv_nil)) (se_var 1)))) (ss_cons (ss_asg (se_bin2 op_fdivW fdiv_ok (s2_ee (se_ix2 ix_seq ix_ok (s2_oe 0 (se_int (fr := false)))) (se_var 1))) (sg_ix (W := Wn) 0 (se_int (fr := false)))) (ss_one (ss_ret (se_var 2))))) ss_nil) (ss_cons (ss_asg (se_bin2 (or_or op_add op_add_str) add_ok (s2_ee (se_ix2 ix_seq ix_ok (s2_oe 0 (se_int (fr := false)))) (se_int (fr := false)))) (sg_ix (W := Wn) 0 (se_int (fr := false)))) (ss_cons (ss_set 3 (Γ2 := [0]) sc_law_draw.nd (se_bin2 op_mod mod_ok (s2_ee (se_calT call_int1 cal_int B.n_int (sv_cons (se_bin2 (or_or op_mul op_mulW) mul_ok (s2_ee (se_bin2 (or_or op_add op_add_str) add_ok (s2_ee (se_bin2 (or_or op_add op_add_str) add_ok (s2_ee (se_ix2 ix_seq ix_ok (s2_oe 0 (se_int (fr := false)))) (se_bin2 (or_or op_mul op_mulW) mul_ok (s2_ee (se_int (fr := false)) (se_ix2 ix_seq ix_ok (s2_oe 0 (se_int (fr := false)))))))) (se_int (fr := false)))) (se_int (fr := false)))) sv_nil)) (se_int (fr := false))))) (ss_cons (ss_set 3 (Γ2 := [0]) sc_law_draw.nd (se_bin2 op_mod mod_ok (s2_ee (se_calT call_int1 cal_int B.n_int (sv_cons (se_bin2 (or_or op_mul op_mulW) mul_ok (s2_ee (se_var 3) (se_bin2 (or_or op_add op_add_str) add_ok (s2_ee (se_bin2 op_fdivW fdiv_ok (s2_ee (se_var 3) (se_int (fr := false)))) (se_int (fr := false)))))) sv_nil)) (se_int (fr := false))))) (ss_cons (ss_set 3 (Γ2 := [0]) sc_law_draw.nd (se_bin2 op_mod mod_ok (s2_ee (se_calT call_int1 cal_int B.n_int (sv_cons (se_bin2 (or_or op_mul op_mulW) mul_ok (s2_ee (se_var 3) (se_bin2 (or_or op_add op_add_str) add_ok (s2_ee (se_bin2 op_fdivW fdiv_ok (s2_ee (se_var 3) (se_int (fr := false)))) (se_int (fr := false)))))) sv_nil)) (se_int (fr := false))))) (ss_one (ss_ret (se_bin2 op_mod mod_ok (s2_ee (se_calT call_int1 cal_int B.n_int (sv_cons (se_bin2 op_fdivW fdiv_ok (s2_ee (se_var 3) (se_int (fr := false)))) sv_nil)) (se_var 1))))))))))
theorem bi_law_draw {f : Addr} {fd : FuncData} (F : FunD K "_law_draw" "_law_draw" (defArgs s_law_draw) (defBody s_law_draw) (defScope s_law_draw) [] [] f fd) : Binds K fd P_law_draw [] := F.bindsN fun _ _ _ _ _ _ us hl => match us, hl with | [_, _], _ => rfl
theorem sc_law_is_integer : FnScope N_law_is_integer P_law_is_integer (defScope s_law_is_integer) := ⟨rfl, rfl, rfl, by decide +kernel, rfl, by decide +kernel, by decide +kernel⟩
theorem ok_law_is_integer {f : Addr} {fd : FuncData} (B : Blt mg)  (F : FunD K "_law_is_integer" "_law_is_integer" (defArgs s_law_is_integer) (defBody s_law_is_integer) (defScope s_law_is_integer) [] [] f fd) : FnOk P w K mg base (L2.CX P w) 1 f fd P_law_is_integer (spF K ct 1 [] false F_law_is_integer) := def_okD (k := 0) F sc_law_is_integer rfl fun cdv A outer s H E hid ioA hr =>
  (ss_one (ss_ret (se_and (se_isi (se_var 0) kb_int B.n_isinstance B.n_int) (se_one (se_not (fr := false) (se_isi (se_var 0) kb_bool B.n_isinstance B.n_bool))))))
theorem bi_law_is_integer {f : Addr} {fd : FuncData} (F : FunD K "_law_is_integer" "_law_is_integer" (defArgs s_law_is_integer) (defBody s_law_is_integer) (defScope s_law_is_integer) [] [] f fd) : Binds K fd P_law_is_integer [] := F.bindsN fun _ _ _ _ _ _ us hl => match us, hl with | [_], _ => rfl
theorem sc_law_worth : FnScope N_law_worth P_law_worth (defScope s_law_worth) := ⟨rfl, rfl, rfl, by decide +kernel, rfl, by decide +kernel, by decide +kernel⟩
theorem ok_law_worth {f : Addr} {fd : FuncData} (B : Blt mg) (h_law_power : Fn P w K mg base ct "_law_power" 1 2 [] false F_law_power) (F : FunD K "_law_worth" "_law_worth" (defArgs s_law_worth) (defBody s_law_worth) (defScope s_law_worth) [] [] f fd) : FnOk P w K mg base (L2.CX P w) 2 f fd P_law_worth (spF K ct 2 [] false F_law_worth) := def_okD (k := 1) F sc_law_worth rfl fun cdv A outer s H E hid ioA hr =>
  (ss_cons (ss_set 2 (Γ2 := []) sc_law_worth.nd (se_int (fr := false))) (ss_cons (ss_for cx_own rfl (si_range1 (sa_cons (se_calB call_len cal_len B.n_len (sv_cons (se_var 1) sv_nil)) sa_nil) B.n_range) (sg_name 3 sc_law_worth.nd) (ss_one (ss_set 2 (Γ2 := []) sc_law_worth.nd (se_bin2 (or_or op_add op_add_str) add_ok (s2_ee (se_var 2) (se_bin2 (or_or op_mul op_mulW) mul_ok (s2_ee (se_bin2 (or_or op_add op_add_str) add_ok (s2_ee (se_strM PySem.F.slot_str_find PySem.F.type_str_find mt_find find_ok (se_var 0) (sv_cons (se_ix2 ix_seq ix_ok (s2_ee (se_var 1) (se_var 3))) sv_nil)) (se_int (fr := false)))) (se_call0 h_law_power cx_takes (hr.mono (by decide)) (sa_cons (se_bin2 (or_or op_add op_add_str) add_ok (s2_ee (se_calB call_len cal_len B.n_len (sv_cons (se_var 0) sv_nil)) (se_int (fr := false)))) (sa_cons (se_bin2 op_sub sub_ok (s2_ee (se_bin2 op_sub sub_ok (s2_ee (se_calB call_len cal_len B.n_len (sv_cons (se_var 1) sv_nil)) (se_int (fr := false)))) (se_var 3))) sa_nil)))))))))) (ss_one (ss_ret (se_var 2)))))
theorem bi_law_worth {f : Addr} {fd : FuncData} (F : FunD K "_law_worth" "_law_worth" (defArgs s_law_worth) (defBody s_law_worth) (defScope s_law_worth) [] [] f fd) : Binds K fd P_law_worth [] := F.bindsN fun _ _ _ _ _ _ us hl => match us, hl with | [_, _], _ => rfl
theorem sc_law_number_refusal : FnScope N_law_number_refusal P_law_number_refusal (defScope s_law_number_refusal) := ⟨rfl, rfl, rfl, by decide +kernel, rfl, by decide +kernel, by decide +kernel⟩
theorem ok_law_number_refusal {f : Addr} {fd : FuncData} (B : Blt mg) (h_text_of : Fn P w K mg base ct "text_of" 2 2 [] false F_text_of) (h_er_NoNumber : Er K mg ct "NoNumber") (h_er_NoSigns : Er K mg ct "NoSigns") {a_NoSigns : Addr} (hct_NoSigns : ct "NoSigns" = some a_NoSigns) (hexc_NoSigns : ExcC K a_NoSigns) (hexm_NoSigns : PySem.W.exmOne K (.ref a_NoSigns) (.ref a_NoSigns) = some true) (hmg_NoSigns : mg "NoSigns" = some (.ref a_NoSigns)) {a_MadeError : Addr} (hmg_MadeError : mg "MadeError" = some (.ref a_MadeError)) (hkit_NoSigns_MadeError : PySem.W.kitOne K (.ref a_NoSigns) (.ref a_MadeError) = some true) {a_NoText : Addr} (hmg_NoText : mg "NoText" = some (.ref a_NoText)) (hkit_NoSigns_NoText : PySem.W.kitOne K (.ref a_NoSigns) (.ref a_NoText) = some false) {a_NoNumber : Addr} (hct_NoNumber : ct "NoNumber" = some a_NoNumber) (hexc_NoNumber : ExcC K a_NoNumber) (hexm_NoNumber : PySem.W.exmOne K (.ref a_NoNumber) (.ref a_NoNumber) = some true) (hmg_NoNumber : mg "NoNumber" = some (.ref a_NoNumber)) (hkit_NoNumber_MadeError : PySem.W.kitOne K (.ref a_NoNumber) (.ref a_MadeError) = some true) (hkit_NoNumber_NoText : PySem.W.kitOne K (.ref a_NoNumber) (.ref a_NoText) = some false) (hexn_NoNumber_NoSigns : PySem.W.exmOne K (.ref a_NoNumber) (.ref a_NoSigns) = some false) (F : FunD K "_law_number_refusal" "_law_number_refusal" (defArgs s_law_number_refusal) (defBody s_law_number_refusal) (defScope s_law_number_refusal) [] [] f fd) : FnOk P w K mg base (L2.CX P w) 3 f fd P_law_number_refusal (spF K ct 2 [] false F_law_number_refusal) := def_okD (k := 2) F sc_law_number_refusal rfl fun cdv A outer s H E hid ioA hr =>
  (ss_cons (ss_set 2 (Γ2 := []) sc_law_number_refusal.nd (se_str (fr := false))) (ss_cons (ss_tryC (l := [⟨"NoSigns", some 3, 2, (.str "signs"), (V.str "signs"), a_NoSigns⟩, ⟨"NoNumber", some 3, 2, (.str "number"), (V.str "number"), a_NoNumber⟩]) sc_law_number_refusal.nd rfl rfl cx_takes (tcOk_cons hct_NoSigns hexm_NoSigns (one_later hexn_NoNumber_NoSigns no_later) (fun _ => .str _) (tcOk_cons hct_NoNumber hexm_NoNumber no_later (fun _ => .str _) .nil)) (fun _ W1 pn xe t1 t2 => (ss_one (ss_expr (se_call0 h_text_of t1 (hr.mono (by decide)) (sa_cons (se_var 0) (sa_cons (se_var 1) sa_nil)))))) (tc_named rfl ⟨rfl, by decide, .inl hmg_NoSigns⟩ (fun a oe pn hz hf => (suite_ps 2 sc_law_number_refusal.nd (sx_pick (sx_and (sx_isi (k := true) hexc_NoSigns hz hf hkit_NoSigns_MadeError rfl (Or.inl rfl) B.n_isinstance hmg_MadeError) (sx_one (sx_not (sx_isi (k := false) hexc_NoSigns hz hf hkit_NoSigns_NoText rfl (Or.inl rfl) B.n_isinstance hmg_NoText)))) B.n_int))) (tc_named rfl ⟨rfl, by decide, .inl hmg_NoNumber⟩ (fun a oe pn hz hf => (suite_ps 2 sc_law_number_refusal.nd (sx_pick (sx_and (sx_isi (k := true) hexc_NoNumber hz hf hkit_NoNumber_MadeError rfl (Or.inl rfl) B.n_isinstance hmg_MadeError) (sx_one (sx_not (sx_isi (k := false) hexc_NoNumber hz hf hkit_NoNumber_NoText rfl (Or.inl rfl) B.n_isinstance hmg_NoText)))) B.n_int))) .nil))) (ss_one (ss_ret (se_var 2)))))
theorem bi_law_number_refusal {f : Addr} {fd : FuncData} (F : FunD K "_law_number_refusal" "_law_number_refusal" (defArgs s_law_number_refusal) (defBody s_law_number_refusal) (defScope s_law_number_refusal) [] [] f fd) : Binds K fd P_law_number_refusal [] := F.bindsN fun _ _ _ _ _ _ us hl => match us, hl with | [_, _], _ => rfl
end
end Wk31
set_option maxHeartbeats 4000000
namespace Wk31
open PySem L2 PySem.Spec PyProof.Rows Ip
section
variable {P : Program} {w : World} {K : PySem.W.Frag} {mg : Str → Option Value} {base : Heap} {ct : Str → Option Addr}
theorem sc_law_signs : FnScope N_law_signs P_law_signs (defScope s_law_signs) := ⟨rfl, rfl, rfl, by decide +kernel, rfl, by decide +kernel, by decide +kernel⟩
theorem ok_law_signs {f : Addr} {fd : FuncData} (B : Blt mg) (h_law_draw : Fn P w K mg base ct "_law_draw" 1 2 [0] false F_law_draw) (F : FunD K "_law_signs" "_law_signs" (defArgs s_law_signs) (defBody s_law_signs) (defScope s_law_signs) [] [] f fd) : FnOk P w K mg base (L2.CX P w) 2 f fd P_law_signs (spF K ct 2 [0] false F_law_signs) := def_okD (k := 1) F sc_law_signs rfl fun cdv A outer s H E hid ioA hr =>
  (ss_cons (ss_setO 2 (Γ2 := [0]) sc_law_signs.nd (se_calO (call_listS rfl) cal_listS B.n_list (sv_cons (se_str (fr := false)) sv_nil))) (ss_cons (ss_setO 2 (Γ2 := [0]) sc_law_signs.nd (se_binO op_catQ cat_ok (s2_oe 2 (se_calO (call_listS rfl) cal_listS B.n_list (sv_cons (se_str (fr := false)) sv_nil))))) (ss_cons (ss_set 3 (Γ2 := [2, 0]) sc_law_signs.nd (se_str (fr := false))) (ss_cons (ss_for cx_own rfl (si_range1 (sa_cons (se_var 1) sa_nil) B.n_range) (sg_name 4 sc_law_signs.nd) (ss_one (ss_set 3 (Γ2 := [2, 0]) sc_law_signs.nd (se_bin2 (or_or op_add op_add_str) add_ok (s2_ee (se_var 3) (se_lstM 2 PySem.F.slot_list_pop PySem.F.type_list_pop mt_popAt popAt_ok (sa_cons (se_call1 h_law_draw cx_takes (hr.mono (by decide)) (sa_io 0 (sa_cons (se_calB call_len cal_len B.n_len (sv_own 2 sv_nil)) sa_nil))) sa_nil))))))) (ss_one (ss_ret (se_var 3)))))))
theorem bi_law_signs {f : Addr} {fd : FuncData} (F : FunD K "_law_signs" "_law_signs" (defArgs s_law_signs) (defBody s_law_signs) (defScope s_law_signs) [] [] f fd) : Binds K fd P_law_signs [] := F.bindsN fun _ _ _ _ _ _ us hl => match us, hl with | [_, _], _ => rfl
theorem sc_law_exact : FnScope N_law_exact P_law_exact (defScope s_law_exact) := ⟨rfl, rfl, rfl, by decide +kernel, rfl, by decide +kernel, by decide +kernel⟩
theorem ok_law_exact {f : Addr} {fd : FuncData} (B : Blt mg) (h_law_is_integer : Fn P w K mg base ct "_law_is_integer" 1 1 [] false F_law_is_integer) (F : FunD K "_law_exact" "_law_exact" (defArgs s_law_exact) (defBody s_law_exact) (defScope s_law_exact) [] [] f fd) (hm : mg "_law_exact" = some (.ref f)) : ∀ n, Fn P w K mg base ct "_law_exact" (n + 1) 2 [] false (F_law_exact n)
  | 0 => ⟨f, fd, P_law_exact, def_okD F sc_law_exact rfl fun cdv A outer s H E hid ioA hr => sss_bad, hm, F.kp, F.bindsN fun _ _ _ _ _ _ us hl => match us, hl with | [_, _], _ => rfl⟩
  | m + 1 => by
    have ih := ok_law_exact B h_law_is_integer F hm m
    refine ⟨f, fd, P_law_exact, def_okD F sc_law_exact rfl fun cdv A outer s H E hid ioA hr => ?_, hm, F.kp, F.bindsN fun _ _ _ _ _ _ us hl => match us, hl with | [_, _], _ => rfl⟩
    exact (ss_cons (ss_if (sp_val (se_isi (se_var 1) kb_dict B.n_isinstance B.n_dict)) sss_bad ss_nil) (ss_cons (ss_if (SW.pt (sw_or (sp_val (se_isi (se_var 1) kb_list B.n_isinstance B.n_list)) (sw_or1 (sp_val (se_isi (se_var 1) kb_tuple B.n_isinstance B.n_tuple))))) (ss_cons (ss_if (SW.pt (sw_and (sp_val (se_isi (se_var 1) kb_list B.n_isinstance B.n_list)) (sw_and1 (sp_not (sp_val (se_isi (se_var 0) kb_list B.n_isinstance B.n_list)))))) (ss_one (ss_ret (se_bl (fr := false)))) ss_nil) (ss_cons (ss_if (SW.pt (sw_and (sp_val (se_isi (se_var 1) kb_tuple B.n_isinstance B.n_tuple)) (sw_and1 (sp_not (sp_val (se_isi (se_var 0) kb_tuple B.n_isinstance B.n_tuple)))))) (ss_one (ss_ret (se_bl (fr := false)))) ss_nil) (ss_cons (ss_if (sp_cmp2 (op_neD (room64 hr)) ne_ok (s2_ee (se_calB call_len cal_len B.n_len (sv_cons (se_var 0) sv_nil)) (se_calB call_len cal_len B.n_len (sv_cons (se_var 1) sv_nil)))) (ss_one (ss_ret (se_bl (fr := false)))) ss_nil) (ss_cons (ss_for cx_own rfl (si_range1 (sa_cons (se_calB call_len cal_len B.n_len (sv_cons (se_var 1) sv_nil)) sa_nil) B.n_range) (sg_name 3 sc_law_exact.nd) (ss_one (ss_if (sp_not (sp_val (se_call0 ih cx_takes (hr.mono (by omega)) (sa_cons (se_ix2 ix_seq ix_ok (s2_ee (se_var 0) (se_var 3))) (sa_cons (se_ix2 ix_seq ix_ok (s2_ee (se_var 1) (se_var 3))) sa_nil))))) (ss_one (ss_ret (se_bl (fr := false)))) ss_nil))) (ss_one (ss_ret (se_bl (fr := false)))))))) ss_nil) (ss_cons (ss_if (sp_val (se_isi (se_var 1) kb_str B.n_isinstance B.n_str)) (ss_one (ss_ret (se_and (se_isi (se_var 0) kb_str B.n_isinstance B.n_str) (se_one (se_cmp2 (op_eqD (room64 hr)) eq_ok (s2_ee (se_var 0) (se_var 1))))))) ss_nil) (ss_one (ss_ret (se_and (se_call0 h_law_is_integer cx_takes (hr.mono (by omega)) (sa_cons (se_var 0) sa_nil)) (se_one (se_cmp2 (op_eqD (room64 hr)) eq_ok (s2_ee (se_var 0) (se_var 1))))))))))
theorem sc_law_no_signs : FnScope N_law_no_signs P_law_no_signs (defScope s_law_no_signs) := ⟨rfl, rfl, rfl, by decide +kernel, rfl, by decide +kernel, by decide +kernel⟩
theorem ok_law_no_signs {f : Addr} {fd : FuncData} (B : Blt mg) (h_law_draw : Fn P w K mg base ct "_law_draw" 1 2 [0] false F_law_draw) (h_law_signs : Fn P w K mg base ct "_law_signs" 2 2 [0] false F_law_signs) (F : FunD K "_law_no_signs" "_law_no_signs" (defArgs s_law_no_signs) (defBody s_law_no_signs) (defScope s_law_no_signs) [] [] f fd) : FnOk P w K mg base (L2.CX P w) 3 f fd P_law_no_signs (spF K ct 2 [0] false F_law_no_signs) := def_okD (k := 2) F sc_law_no_signs rfl fun cdv A outer s H E hid ioA hr =>
  (ss_cons (ss_set 2 (Γ2 := [0]) sc_law_no_signs.nd (se_call1 h_law_draw cx_takes (hr.mono (by decide)) (sa_io 0 (sa_cons (se_int (fr := false)) sa_nil)))) (ss_cons (ss_set 3 (Γ2 := [0]) sc_law_no_signs.nd (se_call1 h_law_draw cx_takes (hr.mono (by decide)) (sa_io 0 (sa_cons (se_calB call_len cal_len B.n_len (sv_cons (se_var 1) sv_nil)) sa_nil)))) (ss_cons (ss_if (sp_cmp2 (op_eqD (room64 hr)) eq_ok (s2_ee (se_var 2) (se_int (fr := false)))) (ss_one (ss_ret (se_str (fr := false)))) ss_nil) (ss_cons (ss_if (sp_cmp2 (op_eqD (room64 hr)) eq_ok (s2_ee (se_var 2) (se_int (fr := false)))) (ss_one (ss_ret (se_bin2 (or_or op_add op_add_str) add_ok (s2_ee (se_var 1) (se_ix2 ix_seq ix_ok (s2_ee (se_var 1) (se_var 3))))))) ss_nil) (ss_cons (ss_if (sp_cmp2 (op_eqD (room64 hr)) eq_ok (s2_ee (se_var 2) (se_int (fr := false)))) (ss_one (ss_ret (se_call1 h_law_signs cx_takes (hr.mono (by decide)) (sa_io 0 (sa_cons (se_int (fr := false)) sa_nil))))) ss_nil) (ss_cons (ss_if (sp_cmp2 (op_eqD (room64 hr)) eq_ok (s2_ee (se_var 2) (se_int (fr := false)))) (ss_one (ss_ret (se_fz (se_calO (call_listS rfl) cal_listS B.n_list (sv_cons (se_var 1) sv_nil))))) ss_nil) (ss_cons (ss_if (sp_cmp2 (op_eqD (room64 hr)) eq_ok (s2_ee (se_var 2) (se_int (fr := false)))) (ss_one (ss_ret (se_ix2 ix_seq ix_ok (s2_ee (se_tup (sa_cons (se_non (fr := false)) (sa_cons (se_int (fr := false)) (sa_cons (se_bl (fr := false)) (sa_cons (se_lst sa_nil) (sa_cons se_dnew (sa_cons (se_tup sa_nil) sa_nil))))))) (se_call1 h_law_draw cx_takes (hr.mono (by decide)) (sa_io 0 (sa_cons (se_int (fr := false)) sa_nil))))))) ss_nil) (ss_one (ss_ret (se_bin2 (or_or op_add op_add_str) add_ok (s2_ee (se_bin2 (or_or op_add op_add_str) add_ok (s2_ee (se_slice (se_var 1) so_none (so_some (se_var 3))) (se_ix2 ix_seq ix_ok (s2_ee (se_tup (sa_cons (se_str (fr := false)) (sa_cons (se_str (fr := false)) sa_nil))) (se_call1 h_law_draw cx_takes (hr.mono (by decide)) (sa_io 0 (sa_cons (se_int (fr := false)) sa_nil))))))) (se_slice (se_var 1) (so_some (se_bin2 (or_or op_add op_add_str) add_ok (s2_ee (se_var 3) (se_int (fr := false))))) so_none))))))))))))
theorem bi_law_no_signs {f : Addr} {fd : FuncData} (F : FunD K "_law_no_signs" "_law_no_signs" (defArgs s_law_no_signs) (defBody s_law_no_signs) (defScope s_law_no_signs) [] [] f fd) : Binds K fd P_law_no_signs [] := F.bindsN fun _ _ _ _ _ _ us hl => match us, hl with | [_, _], _ => rfl
theorem sc_law_refuses_number : FnScope N_law_refuses_number P_law_refuses_number (defScope s_law_refuses_number) := ⟨rfl, rfl, rfl, by decide +kernel, rfl, by decide +kernel, by decide +kernel⟩
theorem ok_law_refuses_number {f : Addr} {fd : FuncData} (B : Blt mg) (h_law_no_signs : Fn P w K mg base ct "_law_no_signs" 3 2 [0] false F_law_no_signs) (h_law_draw : Fn P w K mg base ct "_law_draw" 1 2 [0] false F_law_draw) (h_law_number_refusal : Fn P w K mg base ct "_law_number_refusal" 3 2 [] false F_law_number_refusal) (F : FunD K "_law_refuses_number" "_law_refuses_number" (defArgs s_law_refuses_number) (defBody s_law_refuses_number) (defScope s_law_refuses_number) [] [] f fd) : FnOk P w K mg base (L2.CX P w) 4 f fd P_law_refuses_number (spF K ct 3 [0] false F_law_refuses_number) := def_okD (k := 3) F sc_law_refuses_number rfl fun cdv A outer s H E hid ioA hr =>
  (ss_cons (ss_set 3 (Γ2 := [0]) sc_law_refuses_number.nd (se_call1 h_law_no_signs cx_takes (hr.mono (by decide)) (sa_io 0 (sa_cons (se_var 1) sa_nil)))) (ss_cons (ss_set 4 (Γ2 := [0]) sc_law_refuses_number.nd (se_ix2 ix_seq ix_ok (s2_ee (se_tup (sa_cons (se_bin2 op_sub sub_ok (s2_ee (se_neg (se_int (fr := false))) (se_var 2))) (sa_cons (se_neg (se_int (fr := false))) (sa_cons (se_non (fr := false)) (sa_cons (se_bl (fr := false)) (sa_cons (se_bl (fr := false)) (sa_cons (se_str (fr := false)) (sa_cons (se_lst sa_nil) (sa_cons (se_tup (sa_cons (se_int (fr := false)) sa_nil)) sa_nil))))))))) (se_call1 h_law_draw cx_takes (hr.mono (by decide)) (sa_io 0 (sa_cons (se_int (fr := false)) sa_nil)))))) (ss_cons (ss_if (SW.pt (sw_or (sp_cmp2 (op_neD (room64 hr)) ne_ok (s2_ee (se_call0 h_law_number_refusal cx_takes (hr.mono (by decide)) (sa_cons (se_var 3) (sa_cons (se_var 2) sa_nil))) (se_str (fr := false)))) (sw_or1 (sp_cmp2 (op_neD (room64 hr)) ne_ok (s2_ee (se_call0 h_law_number_refusal cx_takes (hr.mono (by decide)) (sa_cons (se_var 3) (sa_cons (se_var 4) sa_nil))) (se_str (fr := false))))))) (ss_one (ss_ret (se_bl (fr := false)))) ss_nil) (ss_one (ss_ret (se_and (se_cmp2 (op_eqD (room64 hr)) eq_ok (s2_ee (se_call0 h_law_number_refusal cx_takes (hr.mono (by decide)) (sa_cons (se_var 1) (sa_cons (se_var 4) sa_nil))) (se_str (fr := false)))) (se_one (se_cmp2 (op_eqD (room64 hr)) eq_ok (s2_ee (se_call0 h_law_number_refusal cx_takes (hr.mono (by decide)) (sa_cons (se_var 1) (sa_cons (se_var 2) sa_nil))) (se_str (fr := false)))))))))))
theorem bi_law_refuses_number {f : Addr} {fd : FuncData} (F : FunD K "_law_refuses_number" "_law_refuses_number" (defArgs s_law_refuses_number) (defBody s_law_refuses_number) (defScope s_law_refuses_number) [] [] f fd) : Binds K fd P_law_refuses_number [] := F.bindsN fun _ _ _ _ _ _ us hl => match us, hl with | [_, _, _], _ => rfl
end
end Wk31
set_option maxHeartbeats 4000000
namespace Wk31
open PySem L2 PySem.Spec PyProof.Rows Ip
section
variable {P : Program} {w : World} {K : PySem.W.Frag} {mg : Str → Option Value} {base : Heap} {ct : Str → Option Addr}
theorem sc_law_power : FnScope N_law_power P_law_power (defScope s_law_power) := ⟨rfl, rfl, rfl, by decide +kernel, rfl, by decide +kernel, by decide +kernel⟩
theorem ok_law_power {f : Addr} {fd : FuncData} (B : Blt mg)  (F : FunD K "_law_power" "_law_power" (defArgs s_law_power) (defBody s_law_power) (defScope s_law_power) [] [] f fd) : FnOk P w K mg base (L2.CX P w) 1 f fd P_law_power (spF K ct 2 [] false F_law_power) := def_okD (k := 0) F sc_law_power rfl fun cdv A outer s H E hid ioA hr =>
  (ss_cons (ss_set 2 (Γ2 := []) sc_law_power.nd (se_int (fr := false))) (ss_cons (ss_for cx_own rfl (si_range1 (sa_cons (se_var 1) sa_nil) B.n_range) (sg_name 3 sc_law_power.nd) (ss_one (ss_set 2 (Γ2 := []) sc_law_power.nd (se_bin2 (or_or op_mul op_mulW) mul_ok (s2_ee (se_var 2) (se_var 0)))))) (ss_one (ss_ret (se_var 2)))))
theorem bi_law_power {f : Addr} {fd : FuncData} (F : FunD K "_law_power" "_law_power" (defArgs s_law_power) (defBody s_law_power) (defScope s_law_power) [] [] f fd) : Binds K fd P_law_power [] := F.bindsN fun _ _ _ _ _ _ us hl => match us, hl with | [_, _], _ => rfl
theorem sc_text_width : FnScope N_text_width P_text_width (defScope s_text_width) := ⟨rfl, rfl, rfl, by decide +kernel, rfl, by decide +kernel, by decide +kernel⟩
theorem ok_text_width {f : Addr} {fd : FuncData} (B : Blt mg)  (F : FunD K "text_width" "text_width" (defArgs s_text_width) (defBody s_text_width) (defScope s_text_width) [] [] f fd) : FnOk P w K mg base (L2.CX P w) 1 f fd P_text_width (spF K ct 2 [] false F_text_width) := def_okD (k := 0) F sc_text_width rfl fun cdv A outer s H E hid ioA hr =>
  (ss_cons (ss_set 2 (Γ2 := []) sc_text_width.nd (se_int (fr := false))) (ss_cons (ss_for cx_own rfl (si_seq (se_var 1)) (sg_name 3 sc_text_width.nd) (ss_one (ss_set 2 (Γ2 := []) sc_text_width.nd (se_bin2 (or_or op_mul op_mulW) mul_ok (s2_ee (se_var 2) (se_bin2 (or_or op_add op_add_str) add_ok (s2_ee (se_calB call_len cal_len B.n_len (sv_cons (se_var 0) sv_nil)) (se_int (fr := false))))))))) (ss_one (ss_ret (se_var 2)))))
theorem bi_text_width {f : Addr} {fd : FuncData} (F : FunD K "text_width" "text_width" (defArgs s_text_width) (defBody s_text_width) (defScope s_text_width) [] [] f fd) : Binds K fd P_text_width [] := F.bindsN fun _ _ _ _ _ _ us hl => match us, hl with | [_, _], _ => rfl
theorem sc_law_no_text : FnScope N_law_no_text P_law_no_text (defScope s_law_no_text) := ⟨rfl, rfl, rfl, by decide +kernel, rfl, by decide +kernel, by decide +kernel⟩
theorem ok_law_no_text {f : Addr} {fd : FuncData} (B : Blt mg) (h_law_draw : Fn P w K mg base ct "_law_draw" 1 2 [0] false F_law_draw) (F : FunD K "_law_no_text" "_law_no_text" (defArgs s_law_no_text) (defBody s_law_no_text) (defScope s_law_no_text) [] [] f fd) : FnOk P w K mg base (L2.CX P w) 2 f fd P_law_no_text (spF K ct 3 [0] false F_law_no_text) := def_okD (k := 1) F sc_law_no_text rfl fun cdv A outer s H E hid ioA hr =>
  (ss_cons (ss_set 3 (Γ2 := [0]) sc_law_no_text.nd (se_call1 h_law_draw cx_takes (hr.mono (by decide)) (sa_io 0 (sa_cons (se_int (fr := false)) sa_nil)))) (ss_cons (ss_if (sp_cmp2 (op_eqD (room64 hr)) eq_ok (s2_ee (se_var 3) (se_int (fr := false)))) (ss_one (ss_ret (se_fz (se_calO (call_listS rfl) cal_listS B.n_list (sv_cons (se_var 2) sv_nil))))) ss_nil) (ss_cons (ss_if (sp_cmp2 (op_eqD (room64 hr)) eq_ok (s2_ee (se_var 3) (se_int (fr := false)))) (ss_one (ss_ret (se_ix2 ix_seq ix_ok (s2_ee (se_tup (sa_cons (se_non (fr := false)) (sa_cons (se_int (fr := false)) (sa_cons (se_bl (fr := false)) (sa_cons (se_tup sa_nil) (sa_cons se_dnew sa_nil)))))) (se_call1 h_law_draw cx_takes (hr.mono (by decide)) (sa_io 0 (sa_cons (se_int (fr := false)) sa_nil))))))) ss_nil) (ss_cons (ss_let (Γ2 := [0]) (ss_setLc 4 (Γ2 := [0]) rfl sc_law_no_text.nd (blkOk_by (own := [("_law_sign", 6)]) (by show blkC N_law_no_text (defScope s_law_no_text) _ _ = true; decide +kernel)) (si_seq (se_calO (call_listS rfl) cal_listS B.n_list (sv_cons (se_str (fr := false)) sv_nil))) (fun _ _ _ _ _ => (sg_name 6 sc_law_no_text.nd)) (fun _ _ _ _ _ => (sps_one (sp_cmp2 op_notIn_sign notInS_ok (s2_ee (se_var 6) (se_var 1))))) (fun _ _ _ _ _ => (se_var 6)))) (ss_cons (ss_set 5 (Γ2 := [0]) sc_law_no_text.nd (se_call1 h_law_draw cx_takes (hr.mono (by decide)) (sa_io 0 (sa_cons (se_bin2 (or_or op_add op_add_str) add_ok (s2_ee (se_calB call_len cal_len B.n_len (sv_cons (se_var 2) sv_nil)) (se_int (fr := false)))) sa_nil)))) (ss_one (ss_ret (se_bin2 (or_or op_add op_add_str) add_ok (s2_ee (se_bin2 (or_or op_add op_add_str) add_ok (s2_ee (se_slice (se_var 2) so_none (so_some (se_var 5))) (se_ix2 ix_seq ix_ok (s2_ee (se_var 4) (se_call1 h_law_draw cx_takes (hr.mono (by decide)) (sa_io 0 (sa_cons (se_calB call_len cal_len B.n_len (sv_cons (se_var 4) sv_nil)) sa_nil))))))) (se_slice (se_var 2) (so_some (se_var 5)) so_none))))))))))
theorem bi_law_no_text {f : Addr} {fd : FuncData} (F : FunD K "_law_no_text" "_law_no_text" (defArgs s_law_no_text) (defBody s_law_no_text) (defScope s_law_no_text) [] [] f fd) : Binds K fd P_law_no_text [] := F.bindsN fun _ _ _ _ _ _ us hl => match us, hl with | [_, _, _], _ => rfl
theorem sc_law_numbers_hold : FnScope N_law_numbers_hold P_law_numbers_hold (defScope s_law_numbers_hold) := ⟨rfl, rfl, rfl, by decide +kernel, rfl, by decide +kernel, by decide +kernel⟩
theorem ok_law_numbers_hold {f : Addr} {fd : FuncData} (B : Blt mg) (h_law_number : Fn P w K mg base ct "_law_number" 2 2 [0] false F_law_number) (h_text_of : Fn P w K mg base ct "text_of" 2 2 [] false F_text_of) (h_law_text : Fn P w K mg base ct "_law_text" 1 2 [] false F_law_text) (h_law_exact : Fn P w K mg base ct "_law_exact" 4 2 [] false (F_law_exact 3)) (h_worth_of : Fn P w K mg base ct "worth_of" 3 2 [] false F_worth_of) (h_law_ahead : Fn P w K mg base ct "_law_ahead" 1 3 [] false F_law_ahead) (h_law_refuses_number : Fn P w K mg base ct "_law_refuses_number" 4 3 [0] false F_law_refuses_number) (F : FunD K "_law_numbers_hold" "_law_numbers_hold" (defArgs s_law_numbers_hold) (defBody s_law_numbers_hold) (defScope s_law_numbers_hold) [] [] f fd) : FnOk P w K mg base (L2.CX P w) 5 f fd P_law_numbers_hold (spF K ct 2 [0] false F_law_numbers_hold) := def_okD (k := 4) F sc_law_numbers_hold rfl fun cdv A outer s H E hid ioA hr =>
  (ss_cons (ss_set 2 (Γ2 := [0]) sc_law_numbers_hold.nd (se_call1 h_law_number cx_takes (hr.mono (by decide)) (sa_io 0 (sa_cons (se_bin2 (or_or op_add op_add_str) add_ok (s2_ee (se_calB call_len cal_len B.n_len (sv_cons (se_var 1) sv_nil)) (se_int (fr := false)))) sa_nil)))) (ss_cons (ss_set 3 (Γ2 := [0]) sc_law_numbers_hold.nd (se_non (fr := false))) (ss_cons (ss_for cx_own rfl (si_range1 (sa_cons (se_int (fr := false)) sa_nil) B.n_range) (sg_name 4 sc_law_numbers_hold.nd) (ss_cons (ss_set 5 (Γ2 := [0]) sc_law_numbers_hold.nd (se_call0 h_text_of cx_takes (hr.mono (by decide)) (sa_cons (se_var 1) (sa_cons (se_bin2 (or_or op_add op_add_str) add_ok (s2_ee (se_var 2) (se_var 4))) sa_nil)))) (ss_cons (ss_set 6 (Γ2 := [0]) sc_law_numbers_hold.nd (se_call0 h_law_text cx_takes (hr.mono (by decide)) (sa_cons (se_var 1) (sa_cons (se_bin2 (or_or op_add op_add_str) add_ok (s2_ee (se_var 2) (se_var 4))) sa_nil)))) (ss_one (ss_if (sp_cmp2 op_isN isN_ok (s2_ee (se_var 6) (se_non (fr := false)))) (ss_one (ss_if (sp_cmp2 op_notN notN_ok (s2_ee (se_var 5) (se_non (fr := false)))) (ss_one (ss_ret (se_bl (fr := false)))) ss_nil)) (ss_cons (ss_if (SW.pt (sw_or (sp_not (sp_val (se_call0 h_law_exact cx_takes (hr.mono (by decide)) (sa_cons (se_var 5) (sa_cons (se_var 6) sa_nil))))) (sw_or1 (sp_not (sp_val (se_call0 h_law_exact cx_takes (hr.mono (by decide)) (sa_cons (se_call0 h_worth_of cx_takes (hr.mono (by decide)) (sa_cons (se_var 1) (sa_cons (se_var 5) sa_nil))) (sa_cons (se_bin2 (or_or op_add op_add_str) add_ok (s2_ee (se_var 2) (se_var 4))) sa_nil)))))))) (ss_one (ss_ret (se_bl (fr := false)))) ss_nil) (ss_cons (ss_if (SW.pt (sw_and (sp_cmp2 op_notN notN_ok (s2_ee (se_var 3) (se_non (fr := false)))) (sw_and1 (sp_not (sp_val (se_call0 h_law_ahead cx_takes (hr.mono (by decide)) (sa_cons (se_var 1) (sa_cons (se_var 3) (sa_cons (se_var 5) sa_nil))))))))) (ss_one (ss_ret (se_bl (fr := false)))) ss_nil) (ss_one (ss_set 3 (Γ2 := [0]) sc_law_numbers_hold.nd (se_var 5)))))))))) (ss_one (ss_ret (se_call1 h_law_refuses_number cx_takes (hr.mono (by decide)) (sa_io 0 (sa_cons (se_var 1) (sa_cons (se_var 2) sa_nil)))))))))
theorem bi_law_numbers_hold {f : Addr} {fd : FuncData} (F : FunD K "_law_numbers_hold" "_law_numbers_hold" (defArgs s_law_numbers_hold) (defBody s_law_numbers_hold) (defScope s_law_numbers_hold) [] [] f fd) : Binds K fd P_law_numbers_hold [] := F.bindsN fun _ _ _ _ _ _ us hl => match us, hl with | [_, _], _ => rfl
end
end Wk31
set_option maxHeartbeats 4000000
namespace Wk31
open PySem L2 PySem.Spec PyProof.Rows Ip
section
variable {P : Program} {w : World} {K : PySem.W.Frag} {mg : Str → Option Value} {base : Heap} {ct : Str → Option Addr}
theorem sc_are_signs : FnScope N_are_signs P_are_signs (defScope s_are_signs) := ⟨rfl, rfl, rfl, by decide +kernel, rfl, by decide +kernel, by decide +kernel⟩
theorem ok_are_signs {f : Addr} {fd : FuncData} (B : Blt mg)  (F : FunD K "are_signs" "are_signs" (defArgs s_are_signs) (defBody s_are_signs) (defScope s_are_signs) [] [] f fd) : FnOk P w K mg base (L2.CX P w) 1 f fd P_are_signs (spF K ct 1 [] false F_are_signs) := def_okD (k := 0) F sc_are_signs rfl fun cdv A outer s H E hid ioA hr =>
  (ss_cons (ss_if (SW.pt (sw_or (sp_not (sp_val (se_isi (se_var 0) kb_str B.n_isinstance B.n_str))) (sw_or1 (sp_not (sp_chain (or_or op_le op_le_str) (or_or op_le op_le_str) le_ok le_ok (se_int (fr := false)) (se_calB call_len cal_len B.n_len (sv_cons (se_var 0) sv_nil)) (se_int (fr := false))))))) (ss_one (ss_ret (se_bl (fr := false)))) ss_nil) (ss_cons (ss_for cx_own rfl (si_enumS (se_var 0) B.n_enumerate) (sg_tup rfl (sgs_cons (sg_name 1 sc_are_signs.nd) (sgs_cons (sg_name 2 sc_are_signs.nd) sgs_nil))) (ss_one (ss_if (SW.pt (sw_or (sp_not (sp_chain (or_or op_le op_le_str) (or_or op_le op_le_str) le_ok le_ok (se_str (fr := false)) (se_var 2) (se_str (fr := false)))) (sw_or1 (sp_cmp2 op_in_sign inS_ok (s2_ee (se_var 2) (se_slice (se_var 0) so_none (so_some (se_var 1)))))))) (ss_one (ss_ret (se_bl (fr := false)))) ss_nil))) (ss_one (ss_ret (se_bl (fr := false))))))
theorem bi_are_signs {f : Addr} {fd : FuncData} (F : FunD K "are_signs" "are_signs" (defArgs s_are_signs) (defBody s_are_signs) (defScope s_are_signs) [] [] f fd) : Binds K fd P_are_signs [] := F.bindsN fun _ _ _ _ _ _ us hl => match us, hl with | [_], _ => rfl
theorem sc_width_of : FnScope N_width_of P_width_of (defScope s_width_of) := ⟨rfl, rfl, rfl, by decide +kernel, rfl, by decide +kernel, by decide +kernel⟩
theorem ok_width_of {f : Addr} {fd : FuncData} (B : Blt mg) (h_check_text : Fn P w K mg base ct "check_text" 2 2 [] false F_check_text) (h_text_width : Fn P w K mg base ct "text_width" 1 2 [] false F_text_width) (F : FunD K "width_of" "width_of" (defArgs s_width_of) (defBody s_width_of) (defScope s_width_of) [] [] f fd) : FnOk P w K mg base (L2.CX P w) 3 f fd P_width_of (spF K ct 2 [] false F_width_of) := def_okD (k := 2) F sc_width_of rfl fun cdv A outer s H E hid ioA hr =>
  (ss_cons (ss_expr (se_call0 h_check_text cx_takes (hr.mono (by decide)) (sa_cons (se_var 0) (sa_cons (se_var 1) sa_nil)))) (ss_one (ss_ret (se_call0 h_text_width cx_takes (hr.mono (by decide)) (sa_cons (se_var 0) (sa_cons (se_var 1) sa_nil))))))
theorem bi_width_of {f : Addr} {fd : FuncData} (F : FunD K "width_of" "width_of" (defArgs s_width_of) (defBody s_width_of) (defScope s_width_of) [] [] f fd) : Binds K fd P_width_of [] := F.bindsN fun _ _ _ _ _ _ us hl => match us, hl with | [_, _], _ => rfl
theorem sc_law_refusal : FnScope N_law_refusal P_law_refusal (defScope s_law_refusal) := ⟨rfl, rfl, rfl, by decide +kernel, rfl, by decide +kernel, by decide +kernel⟩
theorem ok_law_refusal {f : Addr} {fd : FuncData} (B : Blt mg) (h_worth_of : Fn P w K mg base ct "worth_of" 3 2 [] false F_worth_of) (h_width_of : Fn P w K mg base ct "width_of" 3 2 [] false F_width_of) (h_er_NoSigns : Er K mg ct "NoSigns") (h_er_NoText : Er K mg ct "NoText") {a_NoSigns : Addr} (hct_NoSigns : ct "NoSigns" = some a_NoSigns) (hexc_NoSigns : ExcC K a_NoSigns) (hexm_NoSigns : PySem.W.exmOne K (.ref a_NoSigns) (.ref a_NoSigns) = some true) (hmg_NoSigns : mg "NoSigns" = some (.ref a_NoSigns)) {a_MadeError : Addr} (hmg_MadeError : mg "MadeError" = some (.ref a_MadeError)) (hkit_NoSigns_MadeError : PySem.W.kitOne K (.ref a_NoSigns) (.ref a_MadeError) = some true) {a_NoNumber : Addr} (hmg_NoNumber : mg "NoNumber" = some (.ref a_NoNumber)) (hkit_NoSigns_NoNumber : PySem.W.kitOne K (.ref a_NoSigns) (.ref a_NoNumber) = some false) {a_NoText : Addr} (hct_NoText : ct "NoText" = some a_NoText) (hexc_NoText : ExcC K a_NoText) (hexm_NoText : PySem.W.exmOne K (.ref a_NoText) (.ref a_NoText) = some true) (hmg_NoText : mg "NoText" = some (.ref a_NoText)) (hkit_NoText_MadeError : PySem.W.kitOne K (.ref a_NoText) (.ref a_MadeError) = some true) (hkit_NoText_NoNumber : PySem.W.kitOne K (.ref a_NoText) (.ref a_NoNumber) = some false) (hexn_NoText_NoSigns : PySem.W.exmOne K (.ref a_NoText) (.ref a_NoSigns) = some false) (F : FunD K "_law_refusal" "_law_refusal" (defArgs s_law_refusal) (defBody s_law_refusal) (defScope s_law_refusal) [] [] f fd) : FnOk P w K mg base (L2.CX P w) 4 f fd P_law_refusal (spF K ct 3 [] false F_law_refusal) := def_okD (k := 3) F sc_law_refusal rfl fun cdv A outer s H E hid ioA hr =>
  (ss_cons (ss_set 3 (Γ2 := []) sc_law_refusal.nd (se_str (fr := false))) (ss_cons (ss_tryC (l := [⟨"NoSigns", some 4, 3, (.str "signs"), (V.str "signs"), a_NoSigns⟩, ⟨"NoText", some 4, 3, (.str "text"), (V.str "text"), a_NoText⟩]) sc_law_refusal.nd rfl rfl cx_takes (tcOk_cons hct_NoSigns hexm_NoSigns (one_later hexn_NoText_NoSigns no_later) (fun _ => .str _) (tcOk_cons hct_NoText hexm_NoText no_later (fun _ => .str _) .nil)) (fun _ W1 pn xe t1 t2 => (ss_one (ss_if (sp_cmp2 (op_eqD (room64 hr)) eq_ok (s2_ee (se_var 2) (se_int (fr := false)))) (ss_one (ss_expr (se_call0 h_worth_of t1 (hr.mono (by decide)) (sa_cons (se_var 0) (sa_cons (se_var 1) sa_nil))))) (ss_one (ss_expr (se_call0 h_width_of t1 (hr.mono (by decide)) (sa_cons (se_var 0) (sa_cons (se_var 1) sa_nil)))))))) (tc_named rfl ⟨rfl, by decide, .inl hmg_NoSigns⟩ (fun a oe pn hz hf => (suite_ps 3 sc_law_refusal.nd (sx_pick (sx_and (sx_isi (k := true) hexc_NoSigns hz hf hkit_NoSigns_MadeError rfl (Or.inl rfl) B.n_isinstance hmg_MadeError) (sx_one (sx_not (sx_isi (k := false) hexc_NoSigns hz hf hkit_NoSigns_NoNumber rfl (Or.inl rfl) B.n_isinstance hmg_NoNumber)))) B.n_int))) (tc_named rfl ⟨rfl, by decide, .inl hmg_NoText⟩ (fun a oe pn hz hf => (suite_ps 3 sc_law_refusal.nd (sx_pick (sx_and (sx_isi (k := true) hexc_NoText hz hf hkit_NoText_MadeError rfl (Or.inl rfl) B.n_isinstance hmg_MadeError) (sx_one (sx_not (sx_isi (k := false) hexc_NoText hz hf hkit_NoText_NoNumber rfl (Or.inl rfl) B.n_isinstance hmg_NoNumber)))) B.n_int))) .nil))) (ss_one (ss_ret (se_var 3)))))
theorem bi_law_refusal {f : Addr} {fd : FuncData} (F : FunD K "_law_refusal" "_law_refusal" (defArgs s_law_refusal) (defBody s_law_refusal) (defScope s_law_refusal) [] [] f fd) : Binds K fd P_law_refusal [] := F.bindsN fun _ _ _ _ _ _ us hl => match us, hl with | [_, _, _], _ => rfl
theorem sc_law : FnScope N_law P_law (defScope s_law) := ⟨rfl, rfl, rfl, by decide +kernel, rfl, by decide +kernel, by decide +kernel⟩
theorem ok_law {f : Addr} {fd : FuncData} (B : Blt mg) (h_law_pool : Fn P w K mg base ct "_law_pool" 1 2 [] true F_law_pool) (h_law_signs : Fn P w K mg base ct "_law_signs" 2 2 [0] false F_law_signs) (h_law_draw : Fn P w K mg base ct "_law_draw" 1 2 [0] false F_law_draw) (h_law_long_holds : Fn P w K mg base ct "_law_long_holds" 5 2 [0] false F_law_long_holds) (h_worth_of : Fn P w K mg base ct "worth_of" 3 2 [] false F_worth_of) (h_law_exact : Fn P w K mg base ct "_law_exact" 4 2 [] false (F_law_exact 3)) (h_width_of : Fn P w K mg base ct "width_of" 3 2 [] false F_width_of) (h_law_string : Fn P w K mg base ct "_law_string" 2 3 [0] false F_law_string) (h_law_worth : Fn P w K mg base ct "_law_worth" 2 2 [] false F_law_worth) (h_law_power : Fn P w K mg base ct "_law_power" 1 2 [] false F_law_power) (h_text_of : Fn P w K mg base ct "text_of" 2 2 [] false F_text_of) (h_law_refuses : Fn P w K mg base ct "_law_refuses" 5 3 [0] false F_law_refuses) (h_law_numbers_hold : Fn P w K mg base ct "_law_numbers_hold" 5 2 [0] false F_law_numbers_hold) (F : FunD K "law" "law" (defArgs s_law) (defBody s_law) (defScope s_law) [] [] f fd) : FnOk P w K mg base (L2.CX P w) 6 f fd P_law (spF K ct 1 [] false F_law) := def_okD (k := 5) F sc_law rfl fun cdv A outer s H E hid ioA hr =>
  (ss_cons (ss_setO 1 (Γ2 := []) sc_law.nd (se_call0 h_law_pool cx_takes (hr.mono (by decide)) (sa_cons (se_var 0) (sa_cons (se_int (fr := false)) sa_nil)))) (ss_cons (ss_set 2 (Γ2 := [1]) sc_law.nd (se_call1 h_law_signs cx_takes (hr.mono (by decide)) (sa_io 1 (sa_cons (se_bin2 (or_or op_add op_add_str) add_ok (s2_ee (se_int (fr := false)) (se_call1 h_law_draw cx_takes (hr.mono (by decide)) (sa_io 1 (sa_cons (se_int (fr := false)) sa_nil))))) sa_nil)))) (ss_cons (ss_if (SW.pt (sw_and (sp_cmp2 (op_eqD (room64 hr)) eq_ok (s2_ee (se_call1 h_law_draw cx_takes (hr.mono (by decide)) (sa_io 1 (sa_cons (se_int (fr := false)) sa_nil))) (se_int (fr := false)))) (sw_and1 (sp_not (sp_val (se_call1 h_law_long_holds cx_takes (hr.mono (by decide)) (sa_io 1 (sa_cons (se_var 2) sa_nil)))))))) (ss_one (ss_ret (se_bl (fr := false)))) ss_nil) (ss_cons (ss_set 3 (Γ2 := [1]) sc_law.nd (se_str (fr := false))) (ss_cons (ss_setO 4 (Γ2 := [1]) sc_law.nd (se_lst (sa_cons (se_str (fr := false)) sa_nil))) (ss_cons (ss_setO 5 (Γ2 := [4, 1]) sc_law.nd (se_lst (sa_cons (se_call0 h_worth_of cx_takes (hr.mono (by decide)) (sa_cons (se_var 2) (sa_cons (se_str (fr := false)) sa_nil))) sa_nil))) (ss_cons (ss_if (sp_not (sp_val (se_call0 h_law_exact cx_takes (hr.mono (by decide)) (sa_cons (se_lst (sa_cons (se_ix2 ix_seq ix_ok (s2_oe 5 (se_int (fr := false)))) (sa_cons (se_call0 h_width_of cx_takes (hr.mono (by decide)) (sa_cons (se_var 2) (sa_cons (se_str (fr := false)) sa_nil))) sa_nil))) (sa_cons (se_lst (sa_cons (se_int (fr := false)) (sa_cons (se_int (fr := false)) sa_nil))) sa_nil))))) (ss_one (ss_ret (se_bl (fr := false)))) ss_nil) (ss_cons (ss_for cx_own rfl (si_range2 (sa_cons (se_int (fr := false)) (sa_cons (se_calB (call_max2 rfl) cal_max B.n_max (sv_cons (se_int (fr := false)) (sv_cons (se_calB (call_min2 rfl) cal_min B.n_min (sv_cons (se_calB call_len cal_len B.n_len (sv_cons (se_var 0) sv_nil)) (sv_cons (se_int (fr := false)) sv_nil))) sv_nil))) sa_nil)) B.n_range) (sg_name 6 sc_law.nd) (ss_cons (ss_setO 7 (Γ2 := [5, 4, 1]) sc_law.nd (se_call0 h_law_pool cx_takes (hr.mono (by decide)) (sa_cons (se_var 0) (sa_cons (se_var 6) sa_nil)))) (ss_cons (ss_set 8 (Γ2 := [7, 5, 4, 1]) sc_law.nd (se_call1 h_law_string cx_takes (hr.mono (by decide)) (sa_io 7 (sa_cons (se_var 2) (sa_cons (se_int (fr := false)) sa_nil))))) (ss_cons (ss_set 9 (Γ2 := [7, 5, 4, 1]) sc_law.nd (se_call0 h_worth_of cx_takes (hr.mono (by decide)) (sa_cons (se_var 2) (sa_cons (se_var 8) sa_nil)))) (ss_cons (ss_set 10 (Γ2 := [7, 5, 4, 1]) sc_law.nd (se_call0 h_width_of cx_takes (hr.mono (by decide)) (sa_cons (se_var 2) (sa_cons (se_var 8) sa_nil)))) (ss_cons (ss_if (sp_not (sp_val (se_call0 h_law_exact cx_takes (hr.mono (by decide)) (sa_cons (se_lst (sa_cons (se_var 9) (sa_cons (se_var 10) sa_nil))) (sa_cons (se_lst (sa_cons (se_call0 h_law_worth cx_takes (hr.mono (by decide)) (sa_cons (se_var 2) (sa_cons (se_var 8) sa_nil))) (sa_cons (se_call0 h_law_power cx_takes (hr.mono (by decide)) (sa_cons (se_bin2 (or_or op_add op_add_str) add_ok (s2_ee (se_calB call_len cal_len B.n_len (sv_cons (se_var 2) sv_nil)) (se_int (fr := false)))) (sa_cons (se_calB call_len cal_len B.n_len (sv_cons (se_var 8) sv_nil)) sa_nil))) sa_nil))) sa_nil))))) (ss_one (ss_ret (se_bl (fr := false)))) ss_nil) (ss_cons (ss_if (sp_not (sp_val (se_call0 h_law_exact cx_takes (hr.mono (by decide)) (sa_cons (se_call0 h_text_of cx_takes (hr.mono (by decide)) (sa_cons (se_var 2) (sa_cons (se_var 9) sa_nil))) (sa_cons (se_var 8) sa_nil))))) (ss_one (ss_ret (se_bl (fr := false)))) ss_nil) (ss_cons (ss_if (sp_cmp2 (or_or op_le op_le_str) le_ok (s2_ee (se_bin2 (or_or op_add op_add_str) add_ok (s2_ee (se_calB call_len cal_len B.n_len (sv_cons (se_var 3) sv_nil)) (se_calB call_len cal_len B.n_len (sv_cons (se_var 8) sv_nil)))) (se_int (fr := false)))) (ss_cons (ss_set 11 (Γ2 := [7, 5, 4, 1]) sc_law.nd (se_bin2 (or_or op_add op_add_str) add_ok (s2_ee (se_bin2 (or_or op_mul op_mulW) mul_ok (s2_ee (se_call0 h_worth_of cx_takes (hr.mono (by decide)) (sa_cons (se_var 2) (sa_cons (se_var 3) sa_nil))) (se_var 10))) (se_var 9)))) (ss_cons (ss_if (sp_not (sp_val (se_call0 h_law_exact cx_takes (hr.mono (by decide)) (sa_cons (se_call0 h_worth_of cx_takes (hr.mono (by decide)) (sa_cons (se_var 2) (sa_cons (se_bin2 (or_or op_add op_add_str) add_ok (s2_ee (se_var 3) (se_var 8))) sa_nil))) (sa_cons (se_var 11) sa_nil))))) (ss_one (ss_ret (se_bl (fr := false)))) ss_nil) (ss_cons (ss_if (sp_not (sp_val (se_call0 h_law_exact cx_takes (hr.mono (by decide)) (sa_cons (se_call0 h_width_of cx_takes (hr.mono (by decide)) (sa_cons (se_var 2) (sa_cons (se_bin2 (or_or op_add op_add_str) add_ok (s2_ee (se_var 3) (se_var 8))) sa_nil))) (sa_cons (se_bin2 (or_or op_mul op_mulW) mul_ok (s2_ee (se_call0 h_width_of cx_takes (hr.mono (by decide)) (sa_cons (se_var 2) (sa_cons (se_var 3) sa_nil))) (se_var 10))) sa_nil))))) (ss_one (ss_ret (se_bl (fr := false)))) ss_nil) (ss_one (ss_set 3 (Γ2 := [7, 5, 4, 1]) sc_law.nd (se_bin2 (or_or op_add op_add_str) add_ok (s2_ee (se_var 3) (se_var 8)))))))) ss_nil) (ss_cons (ss_for cx_own rfl (si_range1 (sa_cons (se_calB call_len cal_len B.n_len (sv_own 4 sv_nil)) sa_nil) B.n_range) (sg_name 12 sc_law.nd) (ss_one (ss_if (sp_cmp2 (op_neD (room64 hr)) ne_ok (s2_ee (se_cmp2 (op_eqD (room64 hr)) eq_ok (s2_ee (se_ix2 ix_seq ix_ok (s2_oe 5 (se_var 12))) (se_var 9))) (se_cmp2 (op_eqD (room64 hr)) eq_ok (s2_ee (se_ix2 ix_seq ix_ok (s2_oe 4 (se_var 12))) (se_var 8))))) (ss_one (ss_ret (se_bl (fr := false)))) ss_nil))) (ss_cons (ss_expr (se_lstM 4 PySem.F.slot_list_append PySem.F.type_list_append mt_append append_ok (sa_cons (se_var 8) sa_nil))) (ss_cons (ss_expr (se_lstM 5 PySem.F.slot_list_append PySem.F.type_list_append mt_append append_ok (sa_cons (se_var 9) sa_nil))) (ss_cons (ss_if (sp_not (sp_val (se_call1 h_law_refuses cx_takes (hr.mono (by decide)) (sa_io 7 (sa_cons (se_var 2) (sa_cons (se_var 8) sa_nil)))))) (ss_one (ss_ret (se_bl (fr := false)))) ss_nil) (ss_weak (ss_one (ss_if (SW.pt (sw_and (sp_cmp2 (or_or op_lt op_lt_str) lt_ok (s2_ee (se_var 6) (se_int (fr := false)))) (sw_and1 (sp_not (sp_val (se_call1 h_law_numbers_hold cx_takes (hr.mono (by decide)) (sa_io 7 (sa_cons (se_var 2) sa_nil)))))))) (ss_one (ss_ret (se_bl (fr := false)))) ss_nil))))))))))))))) (ss_cons (ss_set 9 (Γ2 := [5, 4, 1]) sc_law.nd (se_call0 h_worth_of cx_takes (hr.mono (by decide)) (sa_cons (se_var 2) (sa_cons (se_var 3) sa_nil)))) (ss_one (ss_ret (se_and (se_call0 h_law_exact cx_takes (hr.mono (by decide)) (sa_cons (se_var 9) (sa_cons (se_call0 h_law_worth cx_takes (hr.mono (by decide)) (sa_cons (se_var 2) (sa_cons (se_var 3) sa_nil))) sa_nil))) (se_one (se_call0 h_law_exact cx_takes (hr.mono (by decide)) (sa_cons (se_call0 h_text_of cx_takes (hr.mono (by decide)) (sa_cons (se_var 2) (sa_cons (se_var 9) sa_nil))) (sa_cons (se_var 3) sa_nil))))))))))))))))
theorem bi_law {f : Addr} {fd : FuncData} (F : FunD K "law" "law" (defArgs s_law) (defBody s_law) (defScope s_law) [] [] f fd) : Binds K fd P_law [] := F.bindsN fun _ _ _ _ _ _ us hl => match us, hl with | [_], _ => rfl
end
end Wk31
set_option maxHeartbeats 4000000
namespace Wk31
open PySem L2 PySem.Spec PyProof.Rows Ip
section
variable {P : Program} {w : World} {K : PySem.W.Frag} {mg : Str → Option Value} {base : Heap} {ct : Str → Option Addr}
theorem sc_is_of_signs : FnScope N_is_of_signs P_is_of_signs (defScope s_is_of_signs) := ⟨rfl, rfl, rfl, by decide +kernel, rfl, by decide +kernel, by decide +kernel⟩
theorem ok_is_of_signs {f : Addr} {fd : FuncData} (B : Blt mg)  (F : FunD K "is_of_signs" "is_of_signs" (defArgs s_is_of_signs) (defBody s_is_of_signs) (defScope s_is_of_signs) [] [] f fd) : FnOk P w K mg base (L2.CX P w) 1 f fd P_is_of_signs (spF K ct 2 [] false F_is_of_signs) := def_okD (k := 0) F sc_is_of_signs rfl fun cdv A outer s H E hid ioA hr =>
  (ss_cons (ss_if (sp_not (sp_val (se_isi (se_var 0) kb_str B.n_isinstance B.n_str))) (ss_one (ss_ret (se_bl (fr := false)))) ss_nil) (ss_cons (ss_for cx_own rfl (si_seq (se_var 0)) (sg_name 2 sc_is_of_signs.nd) (ss_one (ss_if (sp_cmp2 op_notIn_sign notInS_ok (s2_ee (se_var 2) (se_var 1))) (ss_one (ss_ret (se_bl (fr := false)))) ss_nil))) (ss_one (ss_ret (se_bl (fr := false))))))
theorem bi_is_of_signs {f : Addr} {fd : FuncData} (F : FunD K "is_of_signs" "is_of_signs" (defArgs s_is_of_signs) (defBody s_is_of_signs) (defScope s_is_of_signs) [] [] f fd) : Binds K fd P_is_of_signs [] := F.bindsN fun _ _ _ _ _ _ us hl => match us, hl with | [_, _], _ => rfl
theorem sc_is_integer : FnScope N_is_integer P_is_integer (defScope s_is_integer) := ⟨rfl, rfl, rfl, by decide +kernel, rfl, by decide +kernel, by decide +kernel⟩
theorem ok_is_integer {f : Addr} {fd : FuncData} (B : Blt mg)  (F : FunD K "is_integer" "is_integer" (defArgs s_is_integer) (defBody s_is_integer) (defScope s_is_integer) [] [] f fd) : FnOk P w K mg base (L2.CX P w) 1 f fd P_is_integer (spF K ct 1 [] false F_is_integer) := def_okD (k := 0) F sc_is_integer rfl fun cdv A outer s H E hid ioA hr =>
  (ss_one (ss_ret (se_and (se_isi (se_var 0) kb_int B.n_isinstance B.n_int) (se_one (se_not (fr := false) (se_isi (se_var 0) kb_bool B.n_isinstance B.n_bool))))))
theorem bi_is_integer {f : Addr} {fd : FuncData} (F : FunD K "is_integer" "is_integer" (defArgs s_is_integer) (defBody s_is_integer) (defScope s_is_integer) [] [] f fd) : Binds K fd P_is_integer [] := F.bindsN fun _ _ _ _ _ _ us hl => match us, hl with | [_], _ => rfl
theorem sc_law_refuses : FnScope N_law_refuses P_law_refuses (defScope s_law_refuses) := ⟨rfl, rfl, rfl, by decide +kernel, rfl, by decide +kernel, by decide +kernel⟩
theorem ok_law_refuses {f : Addr} {fd : FuncData} (B : Blt mg) (h_law_no_signs : Fn P w K mg base ct "_law_no_signs" 3 2 [0] false F_law_no_signs) (h_law_no_text : Fn P w K mg base ct "_law_no_text" 2 3 [0] false F_law_no_text) (h_law_refusal : Fn P w K mg base ct "_law_refusal" 4 3 [] false F_law_refusal) (F : FunD K "_law_refuses" "_law_refuses" (defArgs s_law_refuses) (defBody s_law_refuses) (defScope s_law_refuses) [] [] f fd) : FnOk P w K mg base (L2.CX P w) 5 f fd P_law_refuses (spF K ct 3 [0] false F_law_refuses) := def_okD (k := 4) F sc_law_refuses rfl fun cdv A outer s H E hid ioA hr =>
  (ss_cons (ss_set 3 (Γ2 := [0]) sc_law_refuses.nd (se_call1 h_law_no_signs cx_takes (hr.mono (by decide)) (sa_io 0 (sa_cons (se_var 1) sa_nil)))) (ss_cons (ss_set 4 (Γ2 := [0]) sc_law_refuses.nd (se_call1 h_law_no_text cx_takes (hr.mono (by decide)) (sa_io 0 (sa_cons (se_var 1) (sa_cons (se_var 2) sa_nil))))) (ss_cons (ss_for cx_own rfl (si_range1 (sa_cons (se_int (fr := false)) sa_nil) B.n_range) (sg_name 5 sc_law_refuses.nd) (ss_cons (ss_if (SW.pt (sw_or (sp_cmp2 (op_neD (room64 hr)) ne_ok (s2_ee (se_call0 h_law_refusal cx_takes (hr.mono (by decide)) (sa_cons (se_var 3) (sa_cons (se_var 2) (sa_cons (se_var 5) sa_nil)))) (se_str (fr := false)))) (sw_or1 (sp_cmp2 (op_neD (room64 hr)) ne_ok (s2_ee (se_call0 h_law_refusal cx_takes (hr.mono (by decide)) (sa_cons (se_var 3) (sa_cons (se_var 4) (sa_cons (se_var 5) sa_nil)))) (se_str (fr := false))))))) (ss_one (ss_ret (se_bl (fr := false)))) ss_nil) (ss_one (ss_if (SW.pt (sw_or (sp_cmp2 (op_neD (room64 hr)) ne_ok (s2_ee (se_call0 h_law_refusal cx_takes (hr.mono (by decide)) (sa_cons (se_var 1) (sa_cons (se_var 4) (sa_cons (se_var 5) sa_nil)))) (se_str (fr := false)))) (sw_or1 (sp_cmp2 (op_neD (room64 hr)) ne_ok (s2_ee (se_call0 h_law_refusal cx_takes (hr.mono (by decide)) (sa_cons (se_var 1) (sa_cons (se_var 2) (sa_cons (se_var 5) sa_nil)))) (se_str (fr := false))))))) (ss_one (ss_ret (se_bl (fr := false)))) ss_nil)))) (ss_one (ss_ret (se_bl (fr := false)))))))
theorem bi_law_refuses {f : Addr} {fd : FuncData} (F : FunD K "_law_refuses" "_law_refuses" (defArgs s_law_refuses) (defBody s_law_refuses) (defScope s_law_refuses) [] [] f fd) : Binds K fd P_law_refuses [] := F.bindsN fun _ _ _ _ _ _ us hl => match us, hl with | [_, _, _], _ => rfl
end
end Wk31
set_option maxHeartbeats 4000000
namespace Wk31
open PySem L2 PySem.Spec PyProof.Rows Ip
section
variable {P : Program} {w : World} {K : PySem.W.Frag} {mg : Str → Option Value} {base : Heap} {ct : Str → Option Addr}
theorem sc_check_text : FnScope N_check_text P_check_text (defScope s_check_text) := ⟨rfl, rfl, rfl, by decide +kernel, rfl, by decide +kernel, by decide +kernel⟩
theorem ok_check_text {f : Addr} {fd : FuncData} (B : Blt mg) (h_are_signs : Fn P w K mg base ct "are_signs" 1 1 [] false F_are_signs) (h_is_of_signs : Fn P w K mg base ct "is_of_signs" 1 2 [] false F_is_of_signs) (h_er_NoSigns : Er K mg ct "NoSigns") (h_er_NoText : Er K mg ct "NoText") (F : FunD K "check_text" "check_text" (defArgs s_check_text) (defBody s_check_text) (defScope s_check_text) [] [] f fd) : FnOk P w K mg base (L2.CX P w) 2 f fd P_check_text (spF K ct 2 [] false F_check_text) := def_okD (k := 1) F sc_check_text rfl fun cdv A outer s H E hid ioA hr =>
  (ss_cons (ss_if (sp_not (sp_val (se_call0 h_are_signs cx_takes (hr.mono (by decide)) (sa_cons (se_var 0) sa_nil)))) (ss_one (ss_raise h_er_NoSigns rfl cx_takes)) ss_nil) (ss_one (ss_if (sp_not (sp_val (se_call0 h_is_of_signs cx_takes (hr.mono (by decide)) (sa_cons (se_var 1) (sa_cons (se_var 0) sa_nil))))) (ss_one (ss_raise h_er_NoText rfl cx_takes)) ss_nil)))
theorem bi_check_text {f : Addr} {fd : FuncData} (F : FunD K "check_text" "check_text" (defArgs s_check_text) (defBody s_check_text) (defScope s_check_text) [] [] f fd) : Binds K fd P_check_text [] := F.bindsN fun _ _ _ _ _ _ us hl => match us, hl with | [_, _], _ => rfl
theorem sc_text_of : FnScope N_text_of P_text_of (defScope s_text_of) := ⟨rfl, rfl, rfl, by decide +kernel, rfl, by decide +kernel, by decide +kernel⟩
theorem ok_text_of {f : Addr} {fd : FuncData} (B : Blt mg) (h_are_signs : Fn P w K mg base ct "are_signs" 1 1 [] false F_are_signs) (h_is_integer : Fn P w K mg base ct "is_integer" 1 1 [] false F_is_integer) (h_er_NoNumber : Er K mg ct "NoNumber") (h_er_NoSigns : Er K mg ct "NoSigns") (F : FunD K "text_of" "text_of" (defArgs s_text_of) (defBody s_text_of) (defScope s_text_of) [] [] f fd) : FnOk P w K mg base (L2.CX P w) 2 f fd P_text_of (spF K ct 2 [] false F_text_of) := def_okD (k := 1) F sc_text_of rfl fun cdv A outer s H E hid ioA hr =>
  (ss_cons (ss_if (sp_not (sp_val (se_call0 h_are_signs cx_takes (hr.mono (by decide)) (sa_cons (se_var 0) sa_nil)))) (ss_one (ss_raise h_er_NoSigns rfl cx_takes)) ss_nil) (ss_cons (ss_if (SW.pt (sw_or (sp_not (sp_val (se_call0 h_is_integer cx_takes (hr.mono (by decide)) (sa_cons (se_var 1) sa_nil)))) (sw_or1 (sp_cmp2 (or_or op_lt op_lt_str) lt_ok (s2_ee (se_var 1) (se_int (fr := false))))))) (ss_one (ss_raise h_er_NoNumber rfl cx_takes)) ss_nil) (ss_cons (ss_setO 2 (Γ2 := []) sc_text_of.nd (se_lst sa_nil)) (ss_cons (ss_while (fuelI 1) cx_own (sp_cmp2 (or_or op_gt op_gt_str) gt_ok (s2_ee (se_var 1) (se_int (fr := false)))) (ss_cons (ss_asg (se_calB call_divmod cal_divmod B.n_divmod (sv_cons (se_var 1) (sv_cons (se_bin2 (or_or op_add op_add_str) add_ok (s2_ee (se_calB call_len cal_len B.n_len (sv_cons (se_var 0) sv_nil)) (se_int (fr := false)))) sv_nil))) (sg_tup rfl (sgs_cons (sg_name 1 sc_text_of.nd) (sgs_cons (sg_name 3 sc_text_of.nd) sgs_nil)))) (ss_cons (ss_if (sp_cmp2 (op_eqD (room64 hr)) eq_ok (s2_ee (se_var 3) (se_int (fr := false)))) (ss_one (ss_ret (se_non (fr := false)))) ss_nil) (ss_one (ss_expr (se_lstM 2 PySem.F.slot_list_append PySem.F.type_list_append mt_append append_ok (sa_cons (se_ix2 ix_seq ix_ok (s2_ee (se_var 0) (se_bin2 op_sub sub_ok (s2_ee (se_var 3) (se_int (fr := false)))))) sa_nil))))))) (ss_one (ss_ret (se_joinRev (se_str (fr := false)) (se_varF 2 []) rfl B.n_reversed)))))))
theorem bi_text_of {f : Addr} {fd : FuncData} (F : FunD K "text_of" "text_of" (defArgs s_text_of) (defBody s_text_of) (defScope s_text_of) [] [] f fd) : Binds K fd P_text_of [] := F.bindsN fun _ _ _ _ _ _ us hl => match us, hl with | [_, _], _ => rfl
theorem sc_law_number : FnScope N_law_number P_law_number (defScope s_law_number) := ⟨rfl, rfl, rfl, by decide +kernel, rfl, by decide +kernel, by decide +kernel⟩
theorem ok_law_number {f : Addr} {fd : FuncData} (B : Blt mg) (h_law_draw : Fn P w K mg base ct "_law_draw" 1 2 [0] false F_law_draw) (F : FunD K "_law_number" "_law_number" (defArgs s_law_number) (defBody s_law_number) (defScope s_law_number) [] [] f fd) : FnOk P w K mg base (L2.CX P w) 2 f fd P_law_number (spF K ct 2 [0] false F_law_number) := def_okD (k := 1) F sc_law_number rfl fun cdv A outer s H E hid ioA hr =>
  (ss_cons (ss_set 2 (Γ2 := [0]) sc_law_number.nd (se_call1 h_law_draw cx_takes (hr.mono (by decide)) (sa_io 0 (sa_cons (se_int (fr := false)) sa_nil)))) (ss_cons (ss_if (sp_cmp2 (op_eqD (room64 hr)) eq_ok (s2_ee (se_var 2) (se_int (fr := false)))) (ss_one (ss_ret (se_call1 h_law_draw cx_takes (hr.mono (by decide)) (sa_io 0 (sa_cons (se_bin2 op_pow pow_ok (s2_ee (se_int (fr := false)) (se_int (fr := false)))) sa_nil))))) ss_nil) (ss_cons (ss_if (sp_cmp2 (op_eqD (room64 hr)) eq_ok (s2_ee (se_var 2) (se_int (fr := false)))) (ss_one (ss_ret (se_call1 h_law_draw cx_takes (hr.mono (by decide)) (sa_io 0 (sa_cons (se_int (fr := false)) sa_nil))))) ss_nil) (ss_cons (ss_set 3 (Γ2 := [0]) sc_law_number.nd (se_int (fr := false))) (ss_cons (ss_for cx_own rfl (si_range1 (sa_cons (se_call1 h_law_draw cx_takes (hr.mono (by decide)) (sa_io 0 (sa_cons (se_int (fr := false)) sa_nil))) sa_nil) B.n_range) (sg_name 4 sc_law_number.nd) (ss_one (ss_set 3 (Γ2 := [0]) sc_law_number.nd (se_bin2 (or_or op_mul op_mulW) mul_ok (s2_ee (se_var 3) (se_var 1)))))) (ss_one (ss_ret (se_bin2 op_sub sub_ok (s2_ee (se_bin2 op_sub sub_ok (s2_ee (se_var 3) (se_int (fr := false)))) (se_call1 h_law_draw cx_takes (hr.mono (by decide)) (sa_io 0 (sa_cons (se_calB (call_min2 rfl) cal_min B.n_min (sv_cons (se_var 3) (sv_cons (se_int (fr := false)) sv_nil))) sa_nil))))))))))))
theorem bi_law_number {f : Addr} {fd : FuncData} (F : FunD K "_law_number" "_law_number" (defArgs s_law_number) (defBody s_law_number) (defScope s_law_number) [] [] f fd) : Binds K fd P_law_number [] := F.bindsN fun _ _ _ _ _ _ us hl => match us, hl with | [_, _], _ => rfl
end
end Wk31
set_option maxHeartbeats 4000000
namespace Wk31
open PySem L2 PySem.Spec PyProof.Rows Ip
section
variable {P : Program} {w : World} {K : PySem.W.Frag} {mg : Str → Option Value} {base : Heap} {ct : Str → Option Addr}
theorem sc_text_worth : FnScope N_text_worth P_text_worth (defScope s_text_worth) := ⟨rfl, rfl, rfl, by decide +kernel, rfl, by decide +kernel, by decide +kernel⟩
theorem ok_text_worth {f : Addr} {fd : FuncData} (B : Blt mg)  (F : FunD K "text_worth" "text_worth" (defArgs s_text_worth) (defBody s_text_worth) (defScope s_text_worth) [] [] f fd) : FnOk P w K mg base (L2.CX P w) 1 f fd P_text_worth (spF K ct 2 [] false F_text_worth) := def_okD (k := 0) F sc_text_worth rfl fun cdv A outer s H E hid ioA hr =>
  (ss_cons (ss_set 2 (Γ2 := []) sc_text_worth.nd (se_int (fr := false))) (ss_cons (ss_for cx_own rfl (si_seq (se_var 1)) (sg_name 3 sc_text_worth.nd) (ss_one (ss_set 2 (Γ2 := []) sc_text_worth.nd (se_bin2 (or_or op_add op_add_str) add_ok (s2_ee (se_bin2 (or_or op_add op_add_str) add_ok (s2_ee (se_bin2 (or_or op_mul op_mulW) mul_ok (s2_ee (se_var 2) (se_bin2 (or_or op_add op_add_str) add_ok (s2_ee (se_calB call_len cal_len B.n_len (sv_cons (se_var 0) sv_nil)) (se_int (fr := false)))))) (se_strM PySem.F.slot_str_find PySem.F.type_str_find mt_find find_ok (se_var 0) (sv_cons (se_var 3) sv_nil)))) (se_int (fr := false))))))) (ss_one (ss_ret (se_var 2)))))
theorem bi_text_worth {f : Addr} {fd : FuncData} (F : FunD K "text_worth" "text_worth" (defArgs s_text_worth) (defBody s_text_worth) (defScope s_text_worth) [] [] f fd) : Binds K fd P_text_worth [] := F.bindsN fun _ _ _ _ _ _ us hl => match us, hl with | [_, _], _ => rfl
theorem sc_law_long_holds : FnScope N_law_long_holds P_law_long_holds (defScope s_law_long_holds) := ⟨rfl, rfl, rfl, by decide +kernel, rfl, by decide +kernel, by decide +kernel⟩
theorem ok_law_long_holds {f : Addr} {fd : FuncData} (B : Blt mg) (h_law_draw : Fn P w K mg base ct "_law_draw" 1 2 [0] false F_law_draw) (h_law_power : Fn P w K mg base ct "_law_power" 1 2 [] false F_law_power) (h_worth_of : Fn P w K mg base ct "worth_of" 3 2 [] false F_worth_of) (h_law_exact : Fn P w K mg base ct "_law_exact" 4 2 [] false (F_law_exact 3)) (h_width_of : Fn P w K mg base ct "width_of" 3 2 [] false F_width_of) (h_text_of : Fn P w K mg base ct "text_of" 2 2 [] false F_text_of) (F : FunD K "_law_long_holds" "_law_long_holds" (defArgs s_law_long_holds) (defBody s_law_long_holds) (defScope s_law_long_holds) [] [] f fd) : FnOk P w K mg base (L2.CX P w) 5 f fd P_law_long_holds (spF K ct 2 [0] false F_law_long_holds) := def_okD (k := 4) F sc_law_long_holds rfl fun cdv A outer s H E hid ioA hr =>
  (ss_cons (ss_set 2 (Γ2 := [0]) sc_law_long_holds.nd (se_bin2 (or_or op_add op_add_str) add_ok (s2_ee (se_calB call_len cal_len B.n_len (sv_cons (se_var 1) sv_nil)) (se_int (fr := false))))) (ss_cons (ss_set 3 (Γ2 := [0]) sc_law_long_holds.nd (se_call1 h_law_draw cx_takes (hr.mono (by decide)) (sa_io 0 (sa_cons (se_calB call_len cal_len B.n_len (sv_cons (se_var 1) sv_nil)) sa_nil)))) (ss_cons (ss_set 4 (Γ2 := [0]) sc_law_long_holds.nd (se_call1 h_law_draw cx_takes (hr.mono (by decide)) (sa_io 0 (sa_cons (se_calB call_len cal_len B.n_len (sv_cons (se_var 1) sv_nil)) sa_nil)))) (ss_cons (ss_set 5 (Γ2 := [0]) sc_law_long_holds.nd (se_bin2 (or_or op_add op_add_str) add_ok (s2_ee (se_int (fr := false)) (se_call1 h_law_draw cx_takes (hr.mono (by decide)) (sa_io 0 (sa_cons (se_int (fr := false)) sa_nil)))))) (ss_cons (ss_set 6 (Γ2 := [0]) sc_law_long_holds.nd (se_bin2 (or_or op_add op_add_str) add_ok (s2_ee (se_bin2 op_mulS mulS_ok (s2_ee (se_ix2 ix_seq ix_ok (s2_ee (se_var 1) (se_var 3))) (se_var 5))) (se_ix2 ix_seq ix_ok (s2_ee (se_var 1) (se_var 4)))))) (ss_cons (ss_set 7 (Γ2 := [0]) sc_law_long_holds.nd (se_call0 h_law_power cx_takes (hr.mono (by decide)) (sa_cons (se_var 2) (sa_cons (se_var 5) sa_nil)))) (ss_cons (ss_set 8 (Γ2 := [0]) sc_law_long_holds.nd (se_bin2 (or_or op_add op_add_str) add_ok (s2_ee (se_bin2 (or_or op_add op_add_str) add_ok (s2_ee (se_bin2 (or_or op_mul op_mulW) mul_ok (s2_ee (se_bin2 (or_or op_mul op_mulW) mul_ok (s2_ee (se_bin2 (or_or op_add op_add_str) add_ok (s2_ee (se_var 3) (se_int (fr := false)))) (se_bin2 op_fdivW fdiv_ok (s2_ee (se_bin2 op_sub sub_ok (s2_ee (se_var 7) (se_int (fr := false)))) (se_bin2 op_sub sub_ok (s2_ee (se_var 2) (se_int (fr := false)))))))) (se_var 2))) (se_var 4))) (se_int (fr := false))))) (ss_cons (ss_set 9 (Γ2 := [0]) sc_law_long_holds.nd (se_call0 h_worth_of cx_takes (hr.mono (by decide)) (sa_cons (se_var 1) (sa_cons (se_var 6) sa_nil)))) (ss_cons (ss_if (SW.pt (sw_or (sp_not (sp_val (se_call0 h_law_exact cx_takes (hr.mono (by decide)) (sa_cons (se_var 9) (sa_cons (se_var 8) sa_nil))))) (sw_or1 (sp_not (sp_val (se_call0 h_law_exact cx_takes (hr.mono (by decide)) (sa_cons (se_call0 h_width_of cx_takes (hr.mono (by decide)) (sa_cons (se_var 1) (sa_cons (se_var 6) sa_nil))) (sa_cons (se_bin2 (or_or op_mul op_mulW) mul_ok (s2_ee (se_var 7) (se_var 2))) sa_nil)))))))) (ss_one (ss_ret (se_bl (fr := false)))) ss_nil) (ss_one (ss_ret (se_call0 h_law_exact cx_takes (hr.mono (by decide)) (sa_cons (se_call0 h_text_of cx_takes (hr.mono (by decide)) (sa_cons (se_var 1) (sa_cons (se_var 9) sa_nil))) (sa_cons (se_var 6) sa_nil))))))))))))))
theorem bi_law_long_holds {f : Addr} {fd : FuncData} (F : FunD K "_law_long_holds" "_law_long_holds" (defArgs s_law_long_holds) (defBody s_law_long_holds) (defScope s_law_long_holds) [] [] f fd) : Binds K fd P_law_long_holds [] := F.bindsN fun _ _ _ _ _ _ us hl => match us, hl with | [_, _], _ => rfl
theorem sc_law_text : FnScope N_law_text P_law_text (defScope s_law_text) := ⟨rfl, rfl, rfl, by decide +kernel, rfl, by decide +kernel, by decide +kernel⟩
theorem ok_law_text {f : Addr} {fd : FuncData} (B : Blt mg)  (F : FunD K "_law_text" "_law_text" (defArgs s_law_text) (defBody s_law_text) (defScope s_law_text) [] [] f fd) : FnOk P w K mg base (L2.CX P w) 1 f fd P_law_text (spF K ct 2 [] false F_law_text) := def_okD (k := 0) F sc_law_text rfl fun cdv A outer s H E hid ioA hr =>
  (ss_cons (ss_set 2 (Γ2 := []) sc_law_text.nd (se_bin2 (or_or op_add op_add_str) add_ok (s2_ee (se_calB call_len cal_len B.n_len (sv_cons (se_var 0) sv_nil)) (se_int (fr := false))))) (ss_cons (ss_setO 3 (Γ2 := []) sc_law_text.nd (se_lst sa_nil)) (ss_cons (ss_for cx_own rfl (si_range1 (sa_cons (se_int (fr := false)) sa_nil) B.n_range) (sg_name 4 sc_law_text.nd) (ss_cons (ss_if (sp_cmp2 (op_eqD (room64 hr)) eq_ok (s2_ee (se_var 1) (se_int (fr := false)))) (ss_one (ss_breakW)) ss_nil) (ss_cons (ss_expr (se_lstM 3 PySem.F.slot_list_append PySem.F.type_list_append mt_append append_ok (sa_cons (se_bin2 op_mod mod_ok (s2_ee (se_calT call_int1 cal_int B.n_int (sv_cons (se_var 1) sv_nil)) (se_var 2))) sa_nil))) (ss_one (ss_set 1 (Γ2 := [3]) sc_law_text.nd (se_bin2 op_fdivW fdiv_ok (s2_ee (se_var 1) (se_var 2)))))))) (ss_cons (ss_if (sp_cmp2 op_in_seq inI_ok (s2_eo 3 (se_int (fr := false)))) (ss_one (ss_ret (se_non (fr := false)))) ss_nil) (ss_one (ss_ret (se_strM PySem.F.slot_str_join PySem.F.type_str_join mt_join join_ok (se_str (fr := false)) (sv_cons (se_lc rfl sc_law_text.nd (blkOk_by (own := [("_law_figure", 5)]) (by show blkC N_law_text (defScope s_law_text) _ _ = true; decide +kernel)) (si_seq (se_listRev rfl (se_varF 3 []) B.n_list B.n_reversed)) (fun _ _ _ _ _ => (sg_name 5 sc_law_text.nd)) (fun _ _ _ _ _ => sps_nil) (fun _ _ _ _ _ => (se_ix2 ix_seq ix_ok (s2_ee (se_var 0) (se_bin2 op_sub sub_ok (s2_ee (se_var 5) (se_int (fr := false)))))))) sv_nil))))))))
theorem bi_law_text {f : Addr} {fd : FuncData} (F : FunD K "_law_text" "_law_text" (defArgs s_law_text) (defBody s_law_text) (defScope s_law_text) [] [] f fd) : Binds K fd P_law_text [] := F.bindsN fun _ _ _ _ _ _ us hl => match us, hl with | [_, _], _ => rfl
end
end Wk31
set_option maxHeartbeats 0
namespace Wk31
open PySem L2 PySem.Spec PyProof.Rows Ip
/-! ## the head -/
def d_law_pool : He.DefD := ⟨("_law_pool", none), "_law_pool", "_law_pool", defArgs s_law_pool, defBody s_law_pool, defScope s_law_pool, [], []⟩
def d_law_draw : He.DefD := ⟨("_law_draw", none), "_law_draw", "_law_draw", defArgs s_law_draw, defBody s_law_draw, defScope s_law_draw, [], []⟩
def d_law_signs : He.DefD := ⟨("_law_signs", none), "_law_signs", "_law_signs", defArgs s_law_signs, defBody s_law_signs, defScope s_law_signs, [], []⟩
def d_law_power : He.DefD := ⟨("_law_power", none), "_law_power", "_law_power", defArgs s_law_power, defBody s_law_power, defScope s_law_power, [], []⟩
def d_are_signs : He.DefD := ⟨("are_signs", none), "are_signs", "are_signs", defArgs s_are_signs, defBody s_are_signs, defScope s_are_signs, [], []⟩
def d_is_of_signs : He.DefD := ⟨("is_of_signs", none), "is_of_signs", "is_of_signs", defArgs s_is_of_signs, defBody s_is_of_signs, defScope s_is_of_signs, [], []⟩
def d_check_text : He.DefD := ⟨("check_text", none), "check_text", "check_text", defArgs s_check_text, defBody s_check_text, defScope s_check_text, [], []⟩
def d_text_worth : He.DefD := ⟨("text_worth", none), "text_worth", "text_worth", defArgs s_text_worth, defBody s_text_worth, defScope s_text_worth, [], []⟩
def d_worth_of : He.DefD := ⟨("worth_of", none), "worth_of", "worth_of", defArgs s_worth_of, defBody s_worth_of, defScope s_worth_of, [], []⟩
def d_law_is_integer : He.DefD := ⟨("_law_is_integer", none), "_law_is_integer", "_law_is_integer", defArgs s_law_is_integer, defBody s_law_is_integer, defScope s_law_is_integer, [], []⟩
def d_law_exact : He.DefD := ⟨("_law_exact", none), "_law_exact", "_law_exact", defArgs s_law_exact, defBody s_law_exact, defScope s_law_exact, [], []⟩
def d_text_width : He.DefD := ⟨("text_width", none), "text_width", "text_width", defArgs s_text_width, defBody s_text_width, defScope s_text_width, [], []⟩
def d_width_of : He.DefD := ⟨("width_of", none), "width_of", "width_of", defArgs s_width_of, defBody s_width_of, defScope s_width_of, [], []⟩
def d_is_integer : He.DefD := ⟨("is_integer", none), "is_integer", "is_integer", defArgs s_is_integer, defBody s_is_integer, defScope s_is_integer, [], []⟩
def d_text_of : He.DefD := ⟨("text_of", none), "text_of", "text_of", defArgs s_text_of, defBody s_text_of, defScope s_text_of, [], []⟩
def d_law_long_holds : He.DefD := ⟨("_law_long_holds", none), "_law_long_holds", "_law_long_holds", defArgs s_law_long_holds, defBody s_law_long_holds, defScope s_law_long_holds, [], []⟩
def d_law_string : He.DefD := ⟨("_law_string", none), "_law_string", "_law_string", defArgs s_law_string, defBody s_law_string, defScope s_law_string, [], []⟩
def d_law_worth : He.DefD := ⟨("_law_worth", none), "_law_worth", "_law_worth", defArgs s_law_worth, defBody s_law_worth, defScope s_law_worth, [], []⟩
def d_law_no_signs : He.DefD := ⟨("_law_no_signs", none), "_law_no_signs", "_law_no_signs", defArgs s_law_no_signs, defBody s_law_no_signs, defScope s_law_no_signs, [], []⟩
def d_law_no_text : He.DefD := ⟨("_law_no_text", none), "_law_no_text", "_law_no_text", defArgs s_law_no_text, defBody s_law_no_text, defScope s_law_no_text, [], []⟩
def d_law_refusal : He.DefD := ⟨("_law_refusal", none), "_law_refusal", "_law_refusal", defArgs s_law_refusal, defBody s_law_refusal, defScope s_law_refusal, [], []⟩
def d_law_refuses : He.DefD := ⟨("_law_refuses", none), "_law_refuses", "_law_refuses", defArgs s_law_refuses, defBody s_law_refuses, defScope s_law_refuses, [], []⟩
def d_law_number : He.DefD := ⟨("_law_number", none), "_law_number", "_law_number", defArgs s_law_number, defBody s_law_number, defScope s_law_number, [], []⟩
def d_law_text : He.DefD := ⟨("_law_text", none), "_law_text", "_law_text", defArgs s_law_text, defBody s_law_text, defScope s_law_text, [], []⟩
def d_law_ahead : He.DefD := ⟨("_law_ahead", none), "_law_ahead", "_law_ahead", defArgs s_law_ahead, defBody s_law_ahead, defScope s_law_ahead, [], []⟩
def d_law_number_refusal : He.DefD := ⟨("_law_number_refusal", none), "_law_number_refusal", "_law_number_refusal", defArgs s_law_number_refusal, defBody s_law_number_refusal, defScope s_law_number_refusal, [], []⟩
def d_law_refuses_number : He.DefD := ⟨("_law_refuses_number", none), "_law_refuses_number", "_law_refuses_number", defArgs s_law_refuses_number, defBody s_law_refuses_number, defScope s_law_refuses_number, [], []⟩
def d_law_numbers_hold : He.DefD := ⟨("_law_numbers_hold", none), "_law_numbers_hold", "_law_numbers_hold", defArgs s_law_numbers_hold, defBody s_law_numbers_hold, defScope s_law_numbers_hold, [], []⟩
def d_law : He.DefD := ⟨("law", none), "law", "law", defArgs s_law, defBody s_law, defScope s_law, [], []⟩
def fns : List He.DefD := ([d_law_pool, d_law_draw, d_law_signs, d_law_power, d_are_signs, d_is_of_signs, d_check_text, d_text_worth, d_worth_of, d_law_is_integer, d_law_exact, d_text_width, d_width_of, d_is_integer, d_text_of, d_law_long_holds, d_law_string, d_law_worth, d_law_no_signs, d_law_no_text, d_law_refusal, d_law_refuses, d_law_number, d_law_text, d_law_ahead, d_law_number_refusal, d_law_refuses_number, d_law_numbers_hold, d_law] : List He.DefD)
def fas : List He.Fa := ([.glo "_law_pool", .glo "_law_draw", .glo "_law_signs", .glo "_law_power", .glo "are_signs", .glo "is_of_signs", .glo "check_text", .glo "text_worth", .glo "worth_of", .glo "_law_is_integer", .glo "_law_exact", .glo "text_width", .glo "width_of", .glo "is_integer", .glo "text_of", .glo "_law_long_holds", .glo "_law_string", .glo "_law_worth", .glo "_law_no_signs", .glo "_law_no_text", .glo "_law_refusal", .glo "_law_refuses", .glo "_law_number", .glo "_law_text", .glo "_law_ahead", .glo "_law_number_refusal", .glo "_law_refuses_number", .glo "_law_numbers_hold", .glo "law", .glo "MadeError"] : List He.Fa) ++ ([.glo "NoNumber", .glo "NoSigns", .glo "NoText", .free "abs", .free "bool", .free "dict", .free "divmod", .free "enumerate", .free "int", .free "isinstance", .free "len", .free "list", .free "max", .free "min", .free "range", .free "reversed", .free "str", .free "sum", .free "tuple", .exc "NoNumber", .exm "NoNumber" "NoNumber" true, .exc "NoSigns", .exm "NoSigns" "NoSigns" true, .exc "NoText", .exm "NoText" "NoText" true, .exm "NoText" "NoSigns" false, .exm "NoNumber" "NoSigns" false] : List He.Fa)
def xss : List (PySem.W.Frag → Bool) := ([fun K => excC K "NoNumber", fun K => excC K "NoSigns", fun K => excC K "NoText", fun K => kitC K "NoNumber" "MadeError" true, fun K => kitC K "NoNumber" "NoText" false, fun K => kitC K "NoSigns" "MadeError" true, fun K => kitC K "NoSigns" "NoNumber" false, fun K => kitC K "NoSigns" "NoText" false, fun K => kitC K "NoText" "MadeError" true, fun K => kitC K "NoText" "NoNumber" false] : List (PySem.W.Frag → Bool))
def loose : List Str := (["MadeError", "NoNumber", "NoSigns", "NoText", "is_integer", "are_signs", "is_of_signs", "worth_of", "width_of", "check_text", "text_worth", "text_width", "text_of", "_law_pool", "_law_draw", "_law_is_integer", "_law_exact", "_law_signs", "_law_string", "_law_power", "_law_worth", "_law_no_signs", "_law_no_text", "_law_refusal", "_law_refuses", "_law_number", "_law_text", "_law_ahead", "_law_number_refusal", "_law_refuses_number"] : List Str) ++ (["_law_numbers_hold", "_law_long_holds"] : List Str)
abbrev R : PySem.W.OpenRow := PySem.W.OpenLaw.row PySem.Challenge.rw_madeanew_k31_worths_and_widths
abbrev hk : PySem.W.Hook := hookX 6 fas fns xss
def ob (s : PySem.W.SharedT) : He.AlD := obsXG 6 fas fns xss (HandSHeadRun.getT s)
theorem ob_eq (s : PySem.W.SharedT) : ob s = hk.obs s.abs := obsXG_eq (HandSHeadRun.getT_eq s)
theorem run (w : World) : HandSHeadRun.RunEq R (PySem.W.view R.prog [37]) hk ob 4000 loose w := by
  intro os
  kernel_rfl
end Wk31
set_option maxHeartbeats 0
namespace Wk31
open PySem L2 PySem.Spec PyProof.Rows Ip
abbrev ctK (K : PySem.W.Frag) : Str → Option Addr := fun c => some (He.ga K c)
theorem facts {P : Program} {w : World} {K : PySem.W.Frag} {h : Heap} {mg : Str → Option Value} {f : Addr} (X : K.In h) (G : h.Ns mainGlobals mg) (hfa : mg ("law" : Str) = some (.ref f)) (c : SaysX fas fns xss K) :
    ∃ fd : FuncData, (∀ (s : Shared) (v : Value), BindsTo s fd ⟨[v], []⟩ [("_law_script", v)]) ∧ ∀ base : Heap, FnOk P w K mg base (L2.CX P w) 6 f fd P_law (spF K (ctK K) 1 [] false F_law) := by
  have cd := c.d
  have B : Blt mg := ⟨He.free_ok X G (cd.fact 33 (f := .free "abs") rfl), He.free_ok X G (cd.fact 34 (f := .free "bool") rfl), He.free_ok X G (cd.fact 35 (f := .free "dict") rfl), He.free_ok X G (cd.fact 36 (f := .free "divmod") rfl), He.free_ok X G (cd.fact 37 (f := .free "enumerate") rfl), He.free_ok X G (cd.fact 38 (f := .free "int") rfl), He.free_ok X G (cd.fact 39 (f := .free "isinstance") rfl), He.free_ok X G (cd.fact 40 (f := .free "len") rfl), He.free_ok X G (cd.fact 41 (f := .free "list") rfl), He.free_ok X G (cd.fact 42 (f := .free "max") rfl), He.free_ok X G (cd.fact 43 (f := .free "min") rfl), He.free_ok X G (cd.fact 44 (f := .free "range") rfl), He.free_ok X G (cd.fact 45 (f := .free "reversed") rfl), He.free_ok X G (cd.fact 46 (f := .free "str") rfl), He.free_ok X G (cd.fact 47 (f := .free "sum") rfl), He.free_ok X G (cd.fact 48 (f := .free "tuple") rfl)⟩
  have g_law_pool := He.glo_ok X G (cd.fact 0 (f := .glo "_law_pool") rfl)
  have g_law_draw := He.glo_ok X G (cd.fact 1 (f := .glo "_law_draw") rfl)
  have g_law_signs := He.glo_ok X G (cd.fact 2 (f := .glo "_law_signs") rfl)
  have g_law_power := He.glo_ok X G (cd.fact 3 (f := .glo "_law_power") rfl)
  have g_are_signs := He.glo_ok X G (cd.fact 4 (f := .glo "are_signs") rfl)
  have g_is_of_signs := He.glo_ok X G (cd.fact 5 (f := .glo "is_of_signs") rfl)
  have g_check_text := He.glo_ok X G (cd.fact 6 (f := .glo "check_text") rfl)
  have g_text_worth := He.glo_ok X G (cd.fact 7 (f := .glo "text_worth") rfl)
  have g_worth_of := He.glo_ok X G (cd.fact 8 (f := .glo "worth_of") rfl)
  have g_law_is_integer := He.glo_ok X G (cd.fact 9 (f := .glo "_law_is_integer") rfl)
  have g_law_exact := He.glo_ok X G (cd.fact 10 (f := .glo "_law_exact") rfl)
  have g_text_width := He.glo_ok X G (cd.fact 11 (f := .glo "text_width") rfl)
  have g_width_of := He.glo_ok X G (cd.fact 12 (f := .glo "width_of") rfl)
  have g_is_integer := He.glo_ok X G (cd.fact 13 (f := .glo "is_integer") rfl)
  have g_text_of := He.glo_ok X G (cd.fact 14 (f := .glo "text_of") rfl)
  have g_law_long_holds := He.glo_ok X G (cd.fact 15 (f := .glo "_law_long_holds") rfl)
  have g_law_string := He.glo_ok X G (cd.fact 16 (f := .glo "_law_string") rfl)
  have g_law_worth := He.glo_ok X G (cd.fact 17 (f := .glo "_law_worth") rfl)
  have g_law_no_signs := He.glo_ok X G (cd.fact 18 (f := .glo "_law_no_signs") rfl)
  have g_law_no_text := He.glo_ok X G (cd.fact 19 (f := .glo "_law_no_text") rfl)
  have g_law_refusal := He.glo_ok X G (cd.fact 20 (f := .glo "_law_refusal") rfl)
  have g_law_refuses := He.glo_ok X G (cd.fact 21 (f := .glo "_law_refuses") rfl)
  have g_law_number := He.glo_ok X G (cd.fact 22 (f := .glo "_law_number") rfl)
  have g_law_text := He.glo_ok X G (cd.fact 23 (f := .glo "_law_text") rfl)
  have g_law_ahead := He.glo_ok X G (cd.fact 24 (f := .glo "_law_ahead") rfl)
  have g_law_number_refusal := He.glo_ok X G (cd.fact 25 (f := .glo "_law_number_refusal") rfl)
  have g_law_refuses_number := He.glo_ok X G (cd.fact 26 (f := .glo "_law_refuses_number") rfl)
  have g_law_numbers_hold := He.glo_ok X G (cd.fact 27 (f := .glo "_law_numbers_hold") rfl)
  have g_law := He.glo_ok X G (cd.fact 28 (f := .glo "law") rfl)
  have g_MadeError := He.glo_ok X G (cd.fact 29 (f := .glo "MadeError") rfl)
  have g_NoNumber := He.glo_ok X G (cd.fact 30 (f := .glo "NoNumber") rfl)
  have g_NoSigns := He.glo_ok X G (cd.fact 31 (f := .glo "NoSigns") rfl)
  have g_NoText := He.glo_ok X G (cd.fact 32 (f := .glo "NoText") rfl)
  obtain ⟨fd_law_pool, t_law_pool⟩ := cd.def_ 0 (d := d_law_pool) rfl
  obtain ⟨fd_law_draw, t_law_draw⟩ := cd.def_ 1 (d := d_law_draw) rfl
  obtain ⟨fd_law_signs, t_law_signs⟩ := cd.def_ 2 (d := d_law_signs) rfl
  obtain ⟨fd_law_power, t_law_power⟩ := cd.def_ 3 (d := d_law_power) rfl
  obtain ⟨fd_are_signs, t_are_signs⟩ := cd.def_ 4 (d := d_are_signs) rfl
  obtain ⟨fd_is_of_signs, t_is_of_signs⟩ := cd.def_ 5 (d := d_is_of_signs) rfl
  obtain ⟨fd_check_text, t_check_text⟩ := cd.def_ 6 (d := d_check_text) rfl
  obtain ⟨fd_text_worth, t_text_worth⟩ := cd.def_ 7 (d := d_text_worth) rfl
  obtain ⟨fd_worth_of, t_worth_of⟩ := cd.def_ 8 (d := d_worth_of) rfl
  obtain ⟨fd_law_is_integer, t_law_is_integer⟩ := cd.def_ 9 (d := d_law_is_integer) rfl
  obtain ⟨fd_law_exact, t_law_exact⟩ := cd.def_ 10 (d := d_law_exact) rfl
  obtain ⟨fd_text_width, t_text_width⟩ := cd.def_ 11 (d := d_text_width) rfl
  obtain ⟨fd_width_of, t_width_of⟩ := cd.def_ 12 (d := d_width_of) rfl
  obtain ⟨fd_is_integer, t_is_integer⟩ := cd.def_ 13 (d := d_is_integer) rfl
  obtain ⟨fd_text_of, t_text_of⟩ := cd.def_ 14 (d := d_text_of) rfl
  obtain ⟨fd_law_long_holds, t_law_long_holds⟩ := cd.def_ 15 (d := d_law_long_holds) rfl
  obtain ⟨fd_law_string, t_law_string⟩ := cd.def_ 16 (d := d_law_string) rfl
  obtain ⟨fd_law_worth, t_law_worth⟩ := cd.def_ 17 (d := d_law_worth) rfl
  obtain ⟨fd_law_no_signs, t_law_no_signs⟩ := cd.def_ 18 (d := d_law_no_signs) rfl
  obtain ⟨fd_law_no_text, t_law_no_text⟩ := cd.def_ 19 (d := d_law_no_text) rfl
  obtain ⟨fd_law_refusal, t_law_refusal⟩ := cd.def_ 20 (d := d_law_refusal) rfl
  obtain ⟨fd_law_refuses, t_law_refuses⟩ := cd.def_ 21 (d := d_law_refuses) rfl
  obtain ⟨fd_law_number, t_law_number⟩ := cd.def_ 22 (d := d_law_number) rfl
  obtain ⟨fd_law_text, t_law_text⟩ := cd.def_ 23 (d := d_law_text) rfl
  obtain ⟨fd_law_ahead, t_law_ahead⟩ := cd.def_ 24 (d := d_law_ahead) rfl
  obtain ⟨fd_law_number_refusal, t_law_number_refusal⟩ := cd.def_ 25 (d := d_law_number_refusal) rfl
  obtain ⟨fd_law_refuses_number, t_law_refuses_number⟩ := cd.def_ 26 (d := d_law_refuses_number) rfl
  obtain ⟨fd_law_numbers_hold, t_law_numbers_hold⟩ := cd.def_ 27 (d := d_law_numbers_hold) rfl
  obtain ⟨fd_law, t_law⟩ := cd.def_ 28 (d := d_law) rfl
  have ec_NoNumber := He.exc_ok (cd.fact 49 (f := .exc "NoNumber") rfl)
  have h_er_NoNumber : Er K mg (ctK K) "NoNumber" := ⟨_, "ValueError", "ValueError.__new__", _, He.veBase, rfl, PySem.F.excBase_ValueError, ec_NoNumber.1, g_NoNumber, ec_NoNumber.2.1, ec_NoNumber.2.2.1, ec_NoNumber.2.2.2⟩
  have ec_NoSigns := He.exc_ok (cd.fact 51 (f := .exc "NoSigns") rfl)
  have h_er_NoSigns : Er K mg (ctK K) "NoSigns" := ⟨_, "ValueError", "ValueError.__new__", _, He.veBase, rfl, PySem.F.excBase_ValueError, ec_NoSigns.1, g_NoSigns, ec_NoSigns.2.1, ec_NoSigns.2.2.1, ec_NoSigns.2.2.2⟩
  have ec_NoText := He.exc_ok (cd.fact 53 (f := .exc "NoText") rfl)
  have h_er_NoText : Er K mg (ctK K) "NoText" := ⟨_, "ValueError", "ValueError.__new__", _, He.veBase, rfl, PySem.F.excBase_ValueError, ec_NoText.1, g_NoText, ec_NoText.2.1, ec_NoText.2.2.1, ec_NoText.2.2.2⟩
  have e := hfa.symm.trans g_law
  cases e
  refine ⟨fd_law, fun s v => FunD.bindsA (ps := P_law) t_law (fun _ _ _ _ _ _ us hl => match us, hl with | [_], _ => rfl) s [v] rfl, fun base => ?_⟩
  have h_law_pool : Fn P w K mg base (ctK K) "_law_pool" 1 2 [] true F_law_pool := ⟨_, _, _, ok_law_pool (w := w) (base := base) (ct := ctK K) B  t_law_pool, g_law_pool, t_law_pool.kp, bi_law_pool t_law_pool⟩
  have h_law_draw : Fn P w K mg base (ctK K) "_law_draw" 1 2 [0] false F_law_draw := ⟨_, _, _, ok_law_draw (w := w) (base := base) (ct := ctK K) B  t_law_draw, g_law_draw, t_law_draw.kp, bi_law_draw t_law_draw⟩
  have h_law_signs : Fn P w K mg base (ctK K) "_law_signs" 2 2 [0] false F_law_signs := ⟨_, _, _, ok_law_signs (w := w) (base := base) (ct := ctK K) B h_law_draw t_law_signs, g_law_signs, t_law_signs.kp, bi_law_signs t_law_signs⟩
  have h_law_power : Fn P w K mg base (ctK K) "_law_power" 1 2 [] false F_law_power := ⟨_, _, _, ok_law_power (w := w) (base := base) (ct := ctK K) B  t_law_power, g_law_power, t_law_power.kp, bi_law_power t_law_power⟩
  have h_are_signs : Fn P w K mg base (ctK K) "are_signs" 1 1 [] false F_are_signs := ⟨_, _, _, ok_are_signs (w := w) (base := base) (ct := ctK K) B  t_are_signs, g_are_signs, t_are_signs.kp, bi_are_signs t_are_signs⟩
  have h_is_of_signs : Fn P w K mg base (ctK K) "is_of_signs" 1 2 [] false F_is_of_signs := ⟨_, _, _, ok_is_of_signs (w := w) (base := base) (ct := ctK K) B  t_is_of_signs, g_is_of_signs, t_is_of_signs.kp, bi_is_of_signs t_is_of_signs⟩
  have h_check_text : Fn P w K mg base (ctK K) "check_text" 2 2 [] false F_check_text := ⟨_, _, _, ok_check_text (w := w) (base := base) (ct := ctK K) B h_are_signs h_is_of_signs h_er_NoSigns h_er_NoText t_check_text, g_check_text, t_check_text.kp, bi_check_text t_check_text⟩
  have h_text_worth : Fn P w K mg base (ctK K) "text_worth" 1 2 [] false F_text_worth := ⟨_, _, _, ok_text_worth (w := w) (base := base) (ct := ctK K) B  t_text_worth, g_text_worth, t_text_worth.kp, bi_text_worth t_text_worth⟩
  have h_worth_of : Fn P w K mg base (ctK K) "worth_of" 3 2 [] false F_worth_of := ⟨_, _, _, ok_worth_of (w := w) (base := base) (ct := ctK K) B h_check_text h_text_worth t_worth_of, g_worth_of, t_worth_of.kp, bi_worth_of t_worth_of⟩
  have h_law_is_integer : Fn P w K mg base (ctK K) "_law_is_integer" 1 1 [] false F_law_is_integer := ⟨_, _, _, ok_law_is_integer (w := w) (base := base) (ct := ctK K) B  t_law_is_integer, g_law_is_integer, t_law_is_integer.kp, bi_law_is_integer t_law_is_integer⟩
  have h_law_exact : Fn P w K mg base (ctK K) "_law_exact" 4 2 [] false (F_law_exact 3) := ok_law_exact (w := w) (base := base) (ct := ctK K) B h_law_is_integer t_law_exact g_law_exact 3
  have h_text_width : Fn P w K mg base (ctK K) "text_width" 1 2 [] false F_text_width := ⟨_, _, _, ok_text_width (w := w) (base := base) (ct := ctK K) B  t_text_width, g_text_width, t_text_width.kp, bi_text_width t_text_width⟩
  have h_width_of : Fn P w K mg base (ctK K) "width_of" 3 2 [] false F_width_of := ⟨_, _, _, ok_width_of (w := w) (base := base) (ct := ctK K) B h_check_text h_text_width t_width_of, g_width_of, t_width_of.kp, bi_width_of t_width_of⟩
  have h_is_integer : Fn P w K mg base (ctK K) "is_integer" 1 1 [] false F_is_integer := ⟨_, _, _, ok_is_integer (w := w) (base := base) (ct := ctK K) B  t_is_integer, g_is_integer, t_is_integer.kp, bi_is_integer t_is_integer⟩
  have h_text_of : Fn P w K mg base (ctK K) "text_of" 2 2 [] false F_text_of := ⟨_, _, _, ok_text_of (w := w) (base := base) (ct := ctK K) B h_are_signs h_is_integer h_er_NoNumber h_er_NoSigns t_text_of, g_text_of, t_text_of.kp, bi_text_of t_text_of⟩
  have h_law_long_holds : Fn P w K mg base (ctK K) "_law_long_holds" 5 2 [0] false F_law_long_holds := ⟨_, _, _, ok_law_long_holds (w := w) (base := base) (ct := ctK K) B h_law_draw h_law_power h_worth_of h_law_exact h_width_of h_text_of t_law_long_holds, g_law_long_holds, t_law_long_holds.kp, bi_law_long_holds t_law_long_holds⟩
  have h_law_string : Fn P w K mg base (ctK K) "_law_string" 2 3 [0] false F_law_string := ⟨_, _, _, ok_law_string (w := w) (base := base) (ct := ctK K) B h_law_draw t_law_string, g_law_string, t_law_string.kp, bi_law_string t_law_string⟩
  have h_law_worth : Fn P w K mg base (ctK K) "_law_worth" 2 2 [] false F_law_worth := ⟨_, _, _, ok_law_worth (w := w) (base := base) (ct := ctK K) B h_law_power t_law_worth, g_law_worth, t_law_worth.kp, bi_law_worth t_law_worth⟩
  have h_law_no_signs : Fn P w K mg base (ctK K) "_law_no_signs" 3 2 [0] false F_law_no_signs := ⟨_, _, _, ok_law_no_signs (w := w) (base := base) (ct := ctK K) B h_law_draw h_law_signs t_law_no_signs, g_law_no_signs, t_law_no_signs.kp, bi_law_no_signs t_law_no_signs⟩
  have h_law_no_text : Fn P w K mg base (ctK K) "_law_no_text" 2 3 [0] false F_law_no_text := ⟨_, _, _, ok_law_no_text (w := w) (base := base) (ct := ctK K) B h_law_draw t_law_no_text, g_law_no_text, t_law_no_text.kp, bi_law_no_text t_law_no_text⟩
  have h_law_refusal : Fn P w K mg base (ctK K) "_law_refusal" 4 3 [] false F_law_refusal := ⟨_, _, _, ok_law_refusal (w := w) (base := base) (ct := ctK K) B h_worth_of h_width_of h_er_NoSigns h_er_NoText rfl (excC_ok (c.x 1 (x := fun K => excC K "NoSigns") rfl)) (He.exm_ok (cd.fact 52 (f := .exm "NoSigns" "NoSigns" true) rfl)) g_NoSigns g_MadeError (kitC_ok (c.x 5 (x := fun K => kitC K "NoSigns" "MadeError" true) rfl)) g_NoNumber (kitC_ok (c.x 6 (x := fun K => kitC K "NoSigns" "NoNumber" false) rfl)) rfl (excC_ok (c.x 2 (x := fun K => excC K "NoText") rfl)) (He.exm_ok (cd.fact 54 (f := .exm "NoText" "NoText" true) rfl)) g_NoText (kitC_ok (c.x 8 (x := fun K => kitC K "NoText" "MadeError" true) rfl)) (kitC_ok (c.x 9 (x := fun K => kitC K "NoText" "NoNumber" false) rfl)) (He.exm_ok (cd.fact 55 (f := .exm "NoText" "NoSigns" false) rfl)) t_law_refusal, g_law_refusal, t_law_refusal.kp, bi_law_refusal t_law_refusal⟩
  have h_law_refuses : Fn P w K mg base (ctK K) "_law_refuses" 5 3 [0] false F_law_refuses := ⟨_, _, _, ok_law_refuses (w := w) (base := base) (ct := ctK K) B h_law_no_signs h_law_no_text h_law_refusal t_law_refuses, g_law_refuses, t_law_refuses.kp, bi_law_refuses t_law_refuses⟩
  have h_law_number : Fn P w K mg base (ctK K) "_law_number" 2 2 [0] false F_law_number := ⟨_, _, _, ok_law_number (w := w) (base := base) (ct := ctK K) B h_law_draw t_law_number, g_law_number, t_law_number.kp, bi_law_number t_law_number⟩
  have h_law_text : Fn P w K mg base (ctK K) "_law_text" 1 2 [] false F_law_text := ⟨_, _, _, ok_law_text (w := w) (base := base) (ct := ctK K) B  t_law_text, g_law_text, t_law_text.kp, bi_law_text t_law_text⟩
  have h_law_ahead : Fn P w K mg base (ctK K) "_law_ahead" 1 3 [] false F_law_ahead := ⟨_, _, _, ok_law_ahead (w := w) (base := base) (ct := ctK K) B  t_law_ahead, g_law_ahead, t_law_ahead.kp, bi_law_ahead t_law_ahead⟩
  have h_law_number_refusal : Fn P w K mg base (ctK K) "_law_number_refusal" 3 2 [] false F_law_number_refusal := ⟨_, _, _, ok_law_number_refusal (w := w) (base := base) (ct := ctK K) B h_text_of h_er_NoNumber h_er_NoSigns rfl (excC_ok (c.x 1 (x := fun K => excC K "NoSigns") rfl)) (He.exm_ok (cd.fact 52 (f := .exm "NoSigns" "NoSigns" true) rfl)) g_NoSigns g_MadeError (kitC_ok (c.x 5 (x := fun K => kitC K "NoSigns" "MadeError" true) rfl)) g_NoText (kitC_ok (c.x 7 (x := fun K => kitC K "NoSigns" "NoText" false) rfl)) rfl (excC_ok (c.x 0 (x := fun K => excC K "NoNumber") rfl)) (He.exm_ok (cd.fact 50 (f := .exm "NoNumber" "NoNumber" true) rfl)) g_NoNumber (kitC_ok (c.x 3 (x := fun K => kitC K "NoNumber" "MadeError" true) rfl)) (kitC_ok (c.x 4 (x := fun K => kitC K "NoNumber" "NoText" false) rfl)) (He.exm_ok (cd.fact 56 (f := .exm "NoNumber" "NoSigns" false) rfl)) t_law_number_refusal, g_law_number_refusal, t_law_number_refusal.kp, bi_law_number_refusal t_law_number_refusal⟩
  have h_law_refuses_number : Fn P w K mg base (ctK K) "_law_refuses_number" 4 3 [0] false F_law_refuses_number := ⟨_, _, _, ok_law_refuses_number (w := w) (base := base) (ct := ctK K) B h_law_no_signs h_law_draw h_law_number_refusal t_law_refuses_number, g_law_refuses_number, t_law_refuses_number.kp, bi_law_refuses_number t_law_refuses_number⟩
  have h_law_numbers_hold : Fn P w K mg base (ctK K) "_law_numbers_hold" 5 2 [0] false F_law_numbers_hold := ⟨_, _, _, ok_law_numbers_hold (w := w) (base := base) (ct := ctK K) B h_law_number h_text_of h_law_text h_law_exact h_worth_of h_law_ahead h_law_refuses_number t_law_numbers_hold, g_law_numbers_hold, t_law_numbers_hold.kp, bi_law_numbers_hold t_law_numbers_hold⟩
  exact ok_law (w := w) (base := base) (ct := ctK K) B h_law_pool h_law_signs h_law_draw h_law_long_holds h_worth_of h_law_exact h_width_of h_law_string h_law_worth h_law_power h_text_of h_law_refuses h_law_numbers_hold t_law
end Wk31
namespace N31
open Ip
/-! ## figures: least first; base b -/
def va (b : Nat) (l : List Nat) : Nat := l.foldr (fun d w => w * b + d) 0
theorem va_cons (b d : Nat) (l : List Nat) : va b (d :: l) = va b l * b + d := rfl
def figs (b n : Nat) : List Nat := if h : 2 ≤ b ∧ 0 < n then n % b :: figs b (n / b) else []
termination_by n
decreasing_by exact Nat.div_lt_self h.2 h.1
theorem figs_0 (b : Nat) : figs b 0 = [] := by rw [figs, dif_neg (by omega)]
theorem figs_s {b n : Nat} (hb : 2 ≤ b) (hn : 0 < n) : figs b n = n % b :: figs b (n / b) := by rw [figs, dif_pos ⟨hb, hn⟩]
theorem va_figs {b : Nat} (hb : 2 ≤ b) : ∀ n, va b (figs b n) = n := by
  intro n
  induction n using Nat.strongRecOn with
  | ind n ih =>
    by_cases hn : 0 < n
    · rw [figs_s hb hn, va_cons, ih _ (Nat.div_lt_self hn hb), Nat.mul_comm]
      exact Nat.div_add_mod n b
    · have : n = 0 := by omega
      subst this
      rw [figs_0]; rfl
def Fig (b : Nat) (l : List Nat) : Prop := ∀ d ∈ l, 1 ≤ d ∧ d < b
theorem figs_lt {b : Nat} (hb : 2 ≤ b) : ∀ n, ∀ d ∈ figs b n, d < b := by
  intro n
  induction n using Nat.strongRecOn with
  | ind n ih =>
    by_cases hn : 0 < n
    · rw [figs_s hb hn]
      intro d hd
      rcases List.mem_cons.1 hd with rfl | hd
      · exact Nat.mod_lt _ (by omega)
      · exact ih _ (Nat.div_lt_self hn hb) d hd
    · have : n = 0 := by omega
      subst this
      rw [figs_0]
      simp
theorem figs_va {b : Nat} (hb : 2 ≤ b) : ∀ l, Fig b l → figs b (va b l) = l
  | [], _ => figs_0 b
  | d :: l, h => by
    have hd := h d (by simp)
    have e1 : (va b l * b + d) % b = d := by rw [Nat.add_comm, Nat.add_mul_mod_self_right, Nat.mod_eq_of_lt hd.2]
    have e2 : (va b l * b + d) / b = va b l := by rw [Nat.add_comm, Nat.add_mul_div_right _ _ (by omega), Nat.div_eq_of_lt hd.2, Nat.zero_add]
    rw [va_cons, figs_s hb (by omega), e1, e2, figs_va hb l fun x hx => h x (by simp [hx])]
theorem va_inj {b : Nat} (hb : 2 ≤ b) {l m : List Nat} (h1 : Fig b l) (h2 : Fig b m) (e : va b l = va b m) : l = m := by rw [← figs_va hb l h1, e, figs_va hb m h2]
theorem va_app (b : Nat) (m : List Nat) : ∀ l, va b (l ++ m) = va b m * b ^ l.length + va b l
  | [] => by show va b m = _; simp [va]
  | d :: l => by
    rw [List.cons_append, va_cons, va_app b m l, va_cons, List.length_cons, Nat.pow_succ, Nat.add_mul, Nat.mul_assoc]
    omega
theorem va_lt {b : Nat} (hb : 2 ≤ b) : ∀ l, Fig b l → va b l < b ^ l.length
  | [], _ => by show 0 < _; simp
  | d :: l, h => by
    have h1 := va_lt hb l fun x hx => h x (by simp [hx])
    have hd := h d (by simp)
    rw [va_cons, List.length_cons, Nat.pow_succ]
    calc va b l * b + d < va b l * b + b := by omega
      _ = (va b l + 1) * b := by rw [Nat.add_mul, Nat.one_mul]
      _ ≤ b ^ l.length * b := Nat.mul_le_mul_right _ h1
theorem va_ge {b : Nat} (hb : 2 ≤ b) : ∀ l, Fig b l → l ≠ [] → b ^ (l.length - 1) ≤ va b l
  | [], _, n => absurd rfl n
  | [d], h, _ => by
    have hd := h d (by simp)
    show b ^ 0 ≤ va b [] * b + d
    simp
    omega
  | d :: e :: l, h, _ => by
    have h1 := va_ge hb (e :: l) (fun x hx => h x (List.mem_cons_of_mem _ hx)) (by simp)
    rw [va_cons]
    have : b ^ ((d :: e :: l).length - 1) = b ^ ((e :: l).length - 1) * b := by
      rw [← Nat.pow_succ]
      simp
    rw [this]
    have := Nat.mul_le_mul_right b h1
    omega
/-- the longer one is the greater -/
theorem va_len {b : Nat} (hb : 2 ≤ b) {l m : List Nat} (h1 : Fig b l) (h2 : Fig b m) (h : va b l ≤ va b m) : l.length ≤ m.length := by
  refine Nat.le_of_not_lt fun q => ?_
  have a := va_ge hb l h1 (by intro z; subst z; simp at q)
  have c := va_lt hb m h2
  have d : b ^ m.length ≤ b ^ (l.length - 1) := Nat.pow_le_pow_right (by omega) (by omega)
  omega
/-- of one length: the first difference decides (the greatest first) -/
def upN : List Nat → List Nat → Bool
  | x :: xs, y :: ys => decide (x < y) || (decide (x = y) && upN xs ys)
  | _, _ => false
theorem va_up {b : Nat} (hb : 2 ≤ b) : ∀ (l m : List Nat), Fig b l → Fig b m → l.length = m.length → va b l.reverse < va b m.reverse → upN l m = true
  | [], [], _, _, _, h => absurd h (by simp)
  | [], _ :: _, _, _, e, _ => by simp at e
  | _ :: _, [], _, _, e, _ => by simp at e
  | x :: l, y :: m, h1, h2, e, h => by
    have e' : l.length = m.length := by simpa using e
    have f1 : Fig b l := fun d hd => h1 d (by simp [hd])
    have f2 : Fig b m := fun d hd => h2 d (by simp [hd])
    have r1 : Fig b l.reverse := fun d hd => f1 d (List.mem_reverse.1 hd)
    have r2 : Fig b m.reverse := fun d hd => f2 d (List.mem_reverse.1 hd)
    rw [List.reverse_cons, List.reverse_cons, va_app, va_app] at h
    have v1 : va b [x] = x := by show 0 * b + x = x; omega
    have v2 : va b [y] = y := by show 0 * b + y = y; omega
    rw [v1, v2, List.length_reverse, List.length_reverse, e'] at h
    have b2 := va_lt hb _ r2
    rw [List.length_reverse] at b2
    unfold upN
    by_cases q : x < y
    · simp [q]
    · have q2 : x = y := by
        refine Nat.le_antisymm ?_ (by omega)
        refine Nat.le_of_not_lt fun z => ?_
        have := Nat.mul_le_mul_right (b ^ m.length) (show y + 1 ≤ x from z)
        rw [Nat.add_mul, Nat.one_mul] at this
        omega
      subst q2
      have := va_up hb l m f1 f2 e' (by omega)
      simp [this]
theorem pow9 {b n : Nat} (hb : b ≤ 9) : b ^ n < 2 ^ (4 * n + 1) := by
  have h1 : b ^ n ≤ 16 ^ n := Nat.pow_le_pow_left (by omega) n
  have h2 : 16 ^ n = 2 ^ (4 * n) := by rw [Nat.pow_mul]
  rw [Nat.pow_succ]
  have : 0 < 2 ^ (4 * n) := Nat.pow_pos (by omega)
  omega
/-! ## texts of signs -/
def dg (sg t : List Nat) : List Nat := t.map fun c => sg.idxOf c + 1
def wr (sg t : List Nat) : Nat := va (sg.length + 1) (dg sg t).reverse
theorem dg_fig {sg t : List Nat} (h : ∀ c ∈ t, c ∈ sg) : Fig (sg.length + 1) (dg sg t) := by
  intro d hd
  obtain ⟨c, hc, rfl⟩ := List.mem_map.1 hd
  have := List.idxOf_lt_length_of_mem (h c hc)
  omega
theorem dg_figR {sg t : List Nat} (h : ∀ c ∈ t, c ∈ sg) : Fig (sg.length + 1) (dg sg t).reverse := fun d hd => dg_fig h d (List.mem_reverse.1 hd)
theorem dg_len (sg t : List Nat) : (dg sg t).length = t.length := by unfold dg; simp
theorem wr_nil (sg : List Nat) : wr sg [] = 0 := rfl
theorem wr_snoc (sg t : List Nat) (c : Nat) : wr sg (t ++ [c]) = wr sg t * (sg.length + 1) + (sg.idxOf c + 1) := by
  unfold wr dg
  rw [List.map_append, List.reverse_append]
  rfl
theorem wr_app (sg t u : List Nat) : wr sg (t ++ u) = wr sg t * (sg.length + 1) ^ u.length + wr sg u := by
  unfold wr dg
  rw [List.map_append, List.reverse_append, va_app]
  simp
theorem wr_cons (sg t : List Nat) (c : Nat) : wr sg (c :: t) = (sg.idxOf c + 1) * (sg.length + 1) ^ t.length + wr sg t := by
  have := wr_app sg [c] t
  rw [List.singleton_append] at this
  have e : wr sg [c] = sg.idxOf c + 1 := by
    show 0 * _ + (sg.idxOf c + 1) = _
    omega
  rw [this, e]
theorem wr_lt {sg t : List Nat} (hs : 1 ≤ sg.length) (h : ∀ c ∈ t, c ∈ sg) : wr sg t < (sg.length + 1) ^ t.length := by
  have := va_lt (b := sg.length + 1) (by omega) _ (dg_figR h)
  rw [List.length_reverse, dg_len] at this
  exact this
theorem map_inj {sg : List Nat} : ∀ {t u : List Nat}, (∀ c ∈ t, c ∈ sg) → (∀ c ∈ u, c ∈ sg) → dg sg t = dg sg u → t = u
  | [], [], _, _, _ => rfl
  | [], _ :: _, _, _, e => by simp [dg] at e
  | _ :: _, [], _, _, e => by simp [dg] at e
  | c :: t, d :: u, h1, h2, e => by
    unfold dg at e
    rw [List.map_cons, List.map_cons] at e
    injection e with e1 e2
    have a := at_idx (h1 c (by simp))
    have b := at_idx (h2 d (by simp))
    rw [show sg.idxOf c = sg.idxOf d by omega, b] at a
    rw [Option.some.inj a, map_inj (fun x hx => h1 x (by simp [hx])) (fun x hx => h2 x (by simp [hx])) e2]
theorem wr_inj {sg t u : List Nat} (hs : 1 ≤ sg.length) (h1 : ∀ c ∈ t, c ∈ sg) (h2 : ∀ c ∈ u, c ∈ sg) (e : wr sg t = wr sg u) : t = u := by
  have := va_inj (b := sg.length + 1) (by omega) (dg_figR h1) (dg_figR h2) e
  exact map_inj h1 h2 (List.reverse_inj.1 this)
/-- the letter of a figure -/
def lt (sg : List Nat) (d : Nat) : Nat := sg.getD (d - 1) 0
/-- the text of a number whose figures are none 0 -/
def tx (sg : List Nat) (n : Nat) : List Nat := ((figs (sg.length + 1) n).map (lt sg)).reverse
theorem lt_mem {sg : List Nat} {d : Nat} (h1 : 1 ≤ d) (h2 : d < sg.length + 1) : sg[d - 1]? = some (lt sg d) := by
  unfold lt
  rw [List.getD_eq_getElem?_getD, List.getElem?_eq_getElem (by omega)]
  rfl
theorem idx_lt {sg : List Nat} (hn : sg.Nodup) {d : Nat} (h1 : 1 ≤ d) (h2 : d < sg.length + 1) : sg.idxOf (lt sg d) + 1 = d := by
  have a := lt_mem h1 h2
  have b := at_idx (List.mem_of_getElem? a)
  have := at_once hn a b
  omega
theorem lt_idx {sg : List Nat} {c : Nat} (h : c ∈ sg) : lt sg (sg.idxOf c + 1) = c := by
  have a := at_idx h
  unfold lt
  rw [Nat.add_sub_cancel, List.getD_eq_getElem?_getD, a]
  rfl
def Good (sg : List Nat) (n : Nat) : Prop := 0 ∉ figs (sg.length + 1) n
theorem good_fig {sg : List Nat} (hs : 1 ≤ sg.length) {n : Nat} (h : Good sg n) : Fig (sg.length + 1) (figs (sg.length + 1) n) := by
  intro d hd
  have := figs_lt (b := sg.length + 1) (by omega) n d hd
  refine ⟨?_, this⟩
  have : d ≠ 0 := fun z => h (z ▸ hd)
  omega
theorem tx_mem {sg : List Nat} (hs : 1 ≤ sg.length) {n : Nat} (h : Good sg n) : ∀ c ∈ tx sg n, c ∈ sg := by
  intro c hc
  obtain ⟨d, hd, rfl⟩ := List.mem_map.1 (List.mem_reverse.1 hc)
  obtain ⟨a, b⟩ := good_fig hs h d hd
  exact List.mem_of_getElem? (lt_mem a b)
theorem dg_tx {sg : List Nat} (hn : sg.Nodup) (hs : 1 ≤ sg.length) {n : Nat} (h : Good sg n) : (dg sg (tx sg n)).reverse = figs (sg.length + 1) n := by
  unfold dg tx
  rw [List.map_reverse, List.reverse_reverse, List.map_map]
  have : ∀ l : List Nat, Fig (sg.length + 1) l → l.map ((fun c => sg.idxOf c + 1) ∘ lt sg) = l := by
    intro l hl
    conv => rhs; rw [← List.map_id l]
    refine List.map_congr_left fun d hd => ?_
    exact idx_lt hn (hl d hd).1 (hl d hd).2
  exact this _ (good_fig hs h)
theorem wr_tx {sg : List Nat} (hn : sg.Nodup) (hs : 1 ≤ sg.length) {n : Nat} (h : Good sg n) : wr sg (tx sg n) = n := by
  unfold wr
  rw [dg_tx hn hs h, va_figs (by omega)]
theorem good_wr {sg t : List Nat} (hs : 1 ≤ sg.length) (h : ∀ c ∈ t, c ∈ sg) : Good sg (wr sg t) := by
  unfold Good wr
  rw [figs_va (by omega) _ (dg_figR h)]
  intro z
  have := dg_figR h 0 z
  omega
theorem tx_wr {sg t : List Nat} (hs : 1 ≤ sg.length) (h : ∀ c ∈ t, c ∈ sg) : tx sg (wr sg t) = t := by
  unfold tx wr
  rw [figs_va (by omega) _ (dg_figR h), List.map_reverse, List.reverse_reverse]
  unfold dg
  rw [List.map_map]
  conv => rhs; rw [← List.map_id t]
  exact List.map_congr_left fun c hc => lt_idx (h c hc)
/-- ascending numbers have ascending texts -/
def idxs (sg t : List Nat) : List Int := t.map fun c => ((sg.idxOf c : Nat) : Int)
theorem up_int (sg : List Nat) : ∀ t u : List Nat, upN (dg sg t) (dg sg u) = upLt (idxs sg t) (idxs sg u)
  | [], _ => by cases ‹List Nat› <;> rfl
  | _ :: _, [] => rfl
  | c :: t, d :: u => by
    show (decide (sg.idxOf c + 1 < sg.idxOf d + 1) || (decide (sg.idxOf c + 1 = sg.idxOf d + 1) && upN (dg sg t) (dg sg u))) = (decide (((sg.idxOf c : Nat) : Int) < ((sg.idxOf d : Nat) : Int)) || (decide (((sg.idxOf c : Nat) : Int) = ((sg.idxOf d : Nat) : Int)) && upLt (idxs sg t) (idxs sg u)))
    rw [up_int sg t u]
    congr 1
    · exact decide_eq_decide.2 (by omega)
    · congr 1
      exact decide_eq_decide.2 (by omega)
theorem ahead {sg t u : List Nat} (hs : 1 ≤ sg.length) (h1 : ∀ c ∈ t, c ∈ sg) (h2 : ∀ c ∈ u, c ∈ sg) (h : wr sg t < wr sg u) : t.length < u.length ∨ (t.length = u.length ∧ upLt (idxs sg t) (idxs sg u) = true) := by
  have l := va_len (b := sg.length + 1) (by omega) (dg_figR h1) (dg_figR h2) (Nat.le_of_lt h)
  rw [List.length_reverse, List.length_reverse, dg_len, dg_len] at l
  rcases Nat.lt_or_eq_of_le l with l | l
  · exact .inl l
  · refine .inr ⟨l, ?_⟩
    rw [← up_int]
    exact va_up (b := sg.length + 1) (by omega) _ _ (dg_fig h1) (dg_fig h2) (by rw [dg_len, dg_len]; exact l) h
/-! ## equal signs -/
def geo (b : Nat) : Nat → Nat
  | 0 => 0
  | n + 1 => geo b n * b + 1
theorem geo_pow (b n : Nat) : geo (b + 1) n * b + 1 = (b + 1) ^ n := by
  induction n with
  | zero => simp [geo]
  | succ n ih =>
    rw [Nat.pow_succ, ← ih, geo]
    simp only [Nat.add_mul, Nat.mul_add, Nat.mul_one, Nat.one_mul]
    rw [Nat.mul_right_comm]
    omega
theorem wr_rep (sg : List Nat) (c n : Nat) : wr sg (List.replicate n c) = (sg.idxOf c + 1) * geo (sg.length + 1) n := by
  induction n with
  | zero => rfl
  | succ n ih =>
    rw [List.replicate_succ', wr_snoc, ih, geo, Nat.mul_assoc]
    generalize geo (sg.length + 1) n * (sg.length + 1) = g
    rw [Nat.mul_add, Nat.mul_one]
end N31
set_option maxHeartbeats 4000000
namespace Wk31
open PySem L2 Ip
local macro_rules | `(tactic| and_intros) => `(tactic| repeat (first | (with_reducible first | refine w_c ?_ | refine w_nil ?_ | refine w_nx ?_ | refine w_yes ?_ | refine w_pair ?_ | refine w_pairO ?_ | refine w_pairR ?_ | refine w_m2 ?_ | refine w_un ?_ | refine w_cons ?_ | refine w_own ?_ | refine w_io ?_ | refine w_arg ?_ | refine w_argI ?_ | refine w_seqI ?_ | refine w_tup ?_ | refine w_lst ?_ | refine w_and ?_ | refine w_or ?_ | refine w_notV ?_ | refine w_ite ?_ | refine w_test ?_ | refine w_not ?_ | refine w_tand ?_ | refine w_tor ?_ | refine w_chain ?_ | refine w_call0 ?_ | refine w_call1 ?_ | refine w_lstM ?_ | refine w_strM ?_ | refine w_slice ?_ | refine w_oN ?_ | refine w_oS ?_ | refine w_seq ?_ | refine w_if ?_ | refine w_ret ?_ | refine w_drop ?_ | refine w_set ?_ | refine w_setO ?_ | refine w_asg ?_ | refine w_gIx ?_ | refine w_for ?_ | refine w_fn ?_ | refine w_cutL ?_ | refine w_enumS ?_ | refine w_fld1 ?_ | refine w_fldS ?_ | refine w_make ?_ | refine w_meth ?_ | refine w_raise ?_ | refine w_try ?_ | refine w_tryC ?_ | refine w_joinRev ?_ | refine w_while ?_ | refine t_nx ?_ | refine t_ct ?_ | refine t_bk ?_ | refine t_rt ?_ | refine q_nx ?_ | refine q_rt ?_ | refine q_bk ?_ | refine q_ct ?_ | refine e_rt ?_ | refine e_nx ?_ | refine i_t ?_ | refine i_f ?_ | refine i_nt ?_ | refine i_nf ?_ | refine o_add ?_ | refine o_sub ?_ | refine o_lt ?_ | refine o_le ?_ | refine o_gt ?_ | refine o_ge ?_ | refine o_int ?_ | refine o_abs ?_ | refine o_lenL ?_ | refine o_lenT ?_ | refine o_inS ?_ | refine o_notInS ?_ | refine o_listL ?_ | refine o_listT ?_ | refine o_tupL ?_ | refine o_tupT ?_ | refine o_eqI ?_ | refine o_neI ?_ | refine o_isN ?_ | refine o_notN ?_ | refine o_rev ?_ | refine o_max ?_ | refine o_min ?_ | refine o_lenCh ?_ | refine o_notInCh ?_ | refine o_listCh ?_ | refine o_inI ?_ | refine x_bl ?_ | refine x_int ?_ | refine x_str ?_ | refine x_sqL ?_ | refine x_sqT ?_ | refine x_sqS ?_ | refine x_isL ?_ | refine x_out ?_ | refine x_some ?_ | refine x_objL ?_ | refine x_objI ?_ | refine x_objD ?_ | refine x_cls ?_ | refine fl_nx ?_ | refine fl_ct ?_ | refine x_r1 (by with_unfolding_all omega) ?_ | refine x_r2 (by with_unfolding_all omega) ?_ | refine w_var (by with_unfolding_all exact rfl) ?_ | refine x_env (by with_unfolding_all exact rfl) ?_ | refine x_lst (by with_unfolding_all exact rfl) ?_ | refine x_slot (by with_unfolding_all exact of_decide_eq_true rfl) ?_ | refine x_nm (by with_unfolding_all exact of_decide_eq_true rfl) ?_ | refine o_ixL (by with_unfolding_all exact rfl) ?_ | refine o_ixT (by with_unfolding_all exact rfl) ?_ | refine o_isiB (b := true) (by with_unfolding_all exact rfl) ?_ | refine o_isiB (b := false) (by with_unfolding_all exact rfl) ?_ | refine o_lenS' (by first | with_unfolding_all omega | assumption) ?_ | refine x_tp (by with_unfolding_all exact rfl) ?_ | refine x_fld (by with_unfolding_all exact rfl) (by with_unfolding_all exact rfl) ?_ | refine x_meth (by with_unfolding_all exact rfl) ⟨(by with_unfolding_all exact rfl), (by with_unfolding_all exact rfl)⟩ ?_ | refine o_pow (by with_unfolding_all decide) ?_ | refine o_mulR (by with_unfolding_all decide) ?_ | refine o_mulL (by with_unfolding_all decide) ?_ | refine o_mulL (by with_unfolding_all omega) ?_ | refine o_mod (by first | assumption | with_unfolding_all decide) ?_ | refine o_div (by first | assumption | with_unfolding_all decide) (by first | assumption | with_unfolding_all decide) ?_)))
def pool (p q : Int) : D := .lst [.int p, .int q]
theorem draw_ok (p q many : Int) (h1 : 1 ≤ many) (h2 : many < 10 ^ 60) : wf (F_law_draw [pool p q, .int many]) fun d outs => ∃ r p' q', d = .int r ∧ outs = [pool p' q'] ∧ 0 ≤ r ∧ r < many := by
  have hl := log_small (j := many) (by omega) h2
  have hm : (0 : Int) < many := by omega
  unfold F_law_draw pool
  refine w_fn ?_
  unfold m_law_draw
  repeat (first | (with_reducible first | refine w_c ?_ | refine w_nil ?_ | refine w_nx ?_ | refine w_yes ?_ | refine w_pair ?_ | refine w_pairO ?_ | refine w_pairR ?_ | refine w_m2 ?_ | refine w_un ?_ | refine w_cons ?_ | refine w_own ?_ | refine w_io ?_ | refine w_arg ?_ | refine w_argI ?_ | refine w_seqI ?_ | refine w_tup ?_ | refine w_lst ?_ | refine w_and ?_ | refine w_or ?_ | refine w_notV ?_ | refine w_ite ?_ | refine w_test ?_ | refine w_not ?_ | refine w_tand ?_ | refine w_tor ?_ | refine w_chain ?_ | refine w_call0 ?_ | refine w_call1 ?_ | refine w_lstM ?_ | refine w_strM ?_ | refine w_slice ?_ | refine w_oN ?_ | refine w_oS ?_ | refine w_seq ?_ | refine w_if ?_ | refine w_ret ?_ | refine w_drop ?_ | refine w_set ?_ | refine w_setO ?_ | refine w_asg ?_ | refine w_gIx ?_ | refine w_for ?_ | refine w_fn ?_ | refine w_cutL ?_ | refine w_enumS ?_ | refine w_fld1 ?_ | refine w_fldS ?_ | refine w_make ?_ | refine w_meth ?_ | refine w_raise ?_ | refine w_try ?_ | refine w_tryC ?_ | refine w_joinRev ?_ | refine w_while ?_ | refine t_nx ?_ | refine t_ct ?_ | refine t_bk ?_ | refine t_rt ?_ | refine q_nx ?_ | refine q_rt ?_ | refine q_bk ?_ | refine q_ct ?_ | refine e_rt ?_ | refine e_nx ?_ | refine i_t ?_ | refine i_f ?_ | refine i_nt ?_ | refine i_nf ?_ | refine o_add ?_ | refine o_sub ?_ | refine o_lt ?_ | refine o_le ?_ | refine o_gt ?_ | refine o_ge ?_ | refine o_int ?_ | refine o_abs ?_ | refine o_lenL ?_ | refine o_lenT ?_ | refine o_inS ?_ | refine o_notInS ?_ | refine o_listL ?_ | refine o_listT ?_ | refine o_tupL ?_ | refine o_tupT ?_ | refine o_eqI ?_ | refine o_neI ?_ | refine o_isN ?_ | refine o_notN ?_ | refine o_rev ?_ | refine o_max ?_ | refine o_min ?_ | refine o_lenCh ?_ | refine o_notInCh ?_ | refine o_listCh ?_ | refine o_inI ?_ | refine x_bl ?_ | refine x_int ?_ | refine x_str ?_ | refine x_sqL ?_ | refine x_sqT ?_ | refine x_sqS ?_ | refine x_isL ?_ | refine x_out ?_ | refine x_some ?_ | refine x_objL ?_ | refine x_objI ?_ | refine x_objD ?_ | refine x_cls ?_ | refine fl_nx ?_ | refine fl_ct ?_ | refine x_r1 (by with_unfolding_all omega) ?_ | refine x_r2 (by with_unfolding_all omega) ?_ | refine w_var (by with_unfolding_all exact rfl) ?_ | refine x_env (by with_unfolding_all exact rfl) ?_ | refine x_lst (by with_unfolding_all exact rfl) ?_ | refine x_slot (by with_unfolding_all exact of_decide_eq_true rfl) ?_ | refine x_nm (by with_unfolding_all exact of_decide_eq_true rfl) ?_ | refine o_ixL (by with_unfolding_all exact rfl) ?_ | refine o_ixT (by with_unfolding_all exact rfl) ?_ | refine o_isiB (b := true) (by with_unfolding_all exact rfl) ?_ | refine o_isiB (b := false) (by with_unfolding_all exact rfl) ?_ | refine o_lenS' (by first | with_unfolding_all omega | assumption) ?_ | refine x_tp (by with_unfolding_all exact rfl) ?_ | refine x_fld (by with_unfolding_all exact rfl) (by with_unfolding_all exact rfl) ?_ | refine x_meth (by with_unfolding_all exact rfl) ⟨(by with_unfolding_all exact rfl), (by with_unfolding_all exact rfl)⟩ ?_ | refine o_pow (by with_unfolding_all decide) ?_ | refine o_mulR (by with_unfolding_all decide) ?_ | refine o_mulL (by with_unfolding_all decide) ?_ | refine o_mulL (by with_unfolding_all omega) ?_ | refine o_mod (by first | assumption | with_unfolding_all decide) ?_ | refine o_div (by first | assumption | with_unfolding_all decide) (by first | assumption | with_unfolding_all decide) ?_ | refine ⟨(by with_unfolding_all rfl), ?_⟩ | refine ⟨_, (by with_unfolding_all rfl), ?_⟩ | refine ⟨_, _, _, (by with_unfolding_all rfl), (by with_unfolding_all rfl), (by with_unfolding_all rfl), ?_⟩))
  by_cases hp : (10 : Int) ^ 18 ≤ p
  · rw [decide_eq_true (show (10 : Int) ^ Int.toNat 18 ≤ p from hp)]
    repeat (first | (with_reducible first | refine w_c ?_ | refine w_nil ?_ | refine w_nx ?_ | refine w_yes ?_ | refine w_pair ?_ | refine w_pairO ?_ | refine w_pairR ?_ | refine w_m2 ?_ | refine w_un ?_ | refine w_cons ?_ | refine w_own ?_ | refine w_io ?_ | refine w_arg ?_ | refine w_argI ?_ | refine w_seqI ?_ | refine w_tup ?_ | refine w_lst ?_ | refine w_and ?_ | refine w_or ?_ | refine w_notV ?_ | refine w_ite ?_ | refine w_test ?_ | refine w_not ?_ | refine w_tand ?_ | refine w_tor ?_ | refine w_chain ?_ | refine w_call0 ?_ | refine w_call1 ?_ | refine w_lstM ?_ | refine w_strM ?_ | refine w_slice ?_ | refine w_oN ?_ | refine w_oS ?_ | refine w_seq ?_ | refine w_if ?_ | refine w_ret ?_ | refine w_drop ?_ | refine w_set ?_ | refine w_setO ?_ | refine w_asg ?_ | refine w_gIx ?_ | refine w_for ?_ | refine w_fn ?_ | refine w_cutL ?_ | refine w_enumS ?_ | refine w_fld1 ?_ | refine w_fldS ?_ | refine w_make ?_ | refine w_meth ?_ | refine w_raise ?_ | refine w_try ?_ | refine w_tryC ?_ | refine w_joinRev ?_ | refine w_while ?_ | refine t_nx ?_ | refine t_ct ?_ | refine t_bk ?_ | refine t_rt ?_ | refine q_nx ?_ | refine q_rt ?_ | refine q_bk ?_ | refine q_ct ?_ | refine e_rt ?_ | refine e_nx ?_ | refine i_t ?_ | refine i_f ?_ | refine i_nt ?_ | refine i_nf ?_ | refine o_add ?_ | refine o_sub ?_ | refine o_lt ?_ | refine o_le ?_ | refine o_gt ?_ | refine o_ge ?_ | refine o_int ?_ | refine o_abs ?_ | refine o_lenL ?_ | refine o_lenT ?_ | refine o_inS ?_ | refine o_notInS ?_ | refine o_listL ?_ | refine o_listT ?_ | refine o_tupL ?_ | refine o_tupT ?_ | refine o_eqI ?_ | refine o_neI ?_ | refine o_isN ?_ | refine o_notN ?_ | refine o_rev ?_ | refine o_max ?_ | refine o_min ?_ | refine o_lenCh ?_ | refine o_notInCh ?_ | refine o_listCh ?_ | refine o_inI ?_ | refine x_bl ?_ | refine x_int ?_ | refine x_str ?_ | refine x_sqL ?_ | refine x_sqT ?_ | refine x_sqS ?_ | refine x_isL ?_ | refine x_out ?_ | refine x_some ?_ | refine x_objL ?_ | refine x_objI ?_ | refine x_objD ?_ | refine x_cls ?_ | refine fl_nx ?_ | refine fl_ct ?_ | refine x_r1 (by with_unfolding_all omega) ?_ | refine x_r2 (by with_unfolding_all omega) ?_ | refine w_var (by with_unfolding_all exact rfl) ?_ | refine x_env (by with_unfolding_all exact rfl) ?_ | refine x_lst (by with_unfolding_all exact rfl) ?_ | refine x_slot (by with_unfolding_all exact of_decide_eq_true rfl) ?_ | refine x_nm (by with_unfolding_all exact of_decide_eq_true rfl) ?_ | refine o_ixL (by with_unfolding_all exact rfl) ?_ | refine o_ixT (by with_unfolding_all exact rfl) ?_ | refine o_isiB (b := true) (by with_unfolding_all exact rfl) ?_ | refine o_isiB (b := false) (by with_unfolding_all exact rfl) ?_ | refine o_lenS' (by first | with_unfolding_all omega | assumption) ?_ | refine x_tp (by with_unfolding_all exact rfl) ?_ | refine x_fld (by with_unfolding_all exact rfl) (by with_unfolding_all exact rfl) ?_ | refine x_meth (by with_unfolding_all exact rfl) ⟨(by with_unfolding_all exact rfl), (by with_unfolding_all exact rfl)⟩ ?_ | refine o_pow (by with_unfolding_all decide) ?_ | refine o_mulR (by with_unfolding_all decide) ?_ | refine o_mulL (by with_unfolding_all decide) ?_ | refine o_mulL (by with_unfolding_all omega) ?_ | refine o_mod (by first | assumption | with_unfolding_all decide) ?_ | refine o_div (by first | assumption | with_unfolding_all decide) (by first | assumption | with_unfolding_all decide) ?_ | refine ⟨(by with_unfolding_all rfl), ?_⟩ | refine ⟨_, (by with_unfolding_all rfl), ?_⟩ | refine ⟨_, _, _, (by with_unfolding_all rfl), (by with_unfolding_all rfl), (by with_unfolding_all rfl), ?_⟩))
    exact ⟨_, _, _, rfl, rfl, Int.emod_nonneg _ (by omega), Int.emod_lt_of_pos _ hm⟩
  · rw [decide_eq_false (show ¬ (10 : Int) ^ Int.toNat 18 ≤ p from hp)]
    repeat (first | (with_reducible first | refine w_c ?_ | refine w_nil ?_ | refine w_nx ?_ | refine w_yes ?_ | refine w_pair ?_ | refine w_pairO ?_ | refine w_pairR ?_ | refine w_m2 ?_ | refine w_un ?_ | refine w_cons ?_ | refine w_own ?_ | refine w_io ?_ | refine w_arg ?_ | refine w_argI ?_ | refine w_seqI ?_ | refine w_tup ?_ | refine w_lst ?_ | refine w_and ?_ | refine w_or ?_ | refine w_notV ?_ | refine w_ite ?_ | refine w_test ?_ | refine w_not ?_ | refine w_tand ?_ | refine w_tor ?_ | refine w_chain ?_ | refine w_call0 ?_ | refine w_call1 ?_ | refine w_lstM ?_ | refine w_strM ?_ | refine w_slice ?_ | refine w_oN ?_ | refine w_oS ?_ | refine w_seq ?_ | refine w_if ?_ | refine w_ret ?_ | refine w_drop ?_ | refine w_set ?_ | refine w_setO ?_ | refine w_asg ?_ | refine w_gIx ?_ | refine w_for ?_ | refine w_fn ?_ | refine w_cutL ?_ | refine w_enumS ?_ | refine w_fld1 ?_ | refine w_fldS ?_ | refine w_make ?_ | refine w_meth ?_ | refine w_raise ?_ | refine w_try ?_ | refine w_tryC ?_ | refine w_joinRev ?_ | refine w_while ?_ | refine t_nx ?_ | refine t_ct ?_ | refine t_bk ?_ | refine t_rt ?_ | refine q_nx ?_ | refine q_rt ?_ | refine q_bk ?_ | refine q_ct ?_ | refine e_rt ?_ | refine e_nx ?_ | refine i_t ?_ | refine i_f ?_ | refine i_nt ?_ | refine i_nf ?_ | refine o_add ?_ | refine o_sub ?_ | refine o_lt ?_ | refine o_le ?_ | refine o_gt ?_ | refine o_ge ?_ | refine o_int ?_ | refine o_abs ?_ | refine o_lenL ?_ | refine o_lenT ?_ | refine o_inS ?_ | refine o_notInS ?_ | refine o_listL ?_ | refine o_listT ?_ | refine o_tupL ?_ | refine o_tupT ?_ | refine o_eqI ?_ | refine o_neI ?_ | refine o_isN ?_ | refine o_notN ?_ | refine o_rev ?_ | refine o_max ?_ | refine o_min ?_ | refine o_lenCh ?_ | refine o_notInCh ?_ | refine o_listCh ?_ | refine o_inI ?_ | refine x_bl ?_ | refine x_int ?_ | refine x_str ?_ | refine x_sqL ?_ | refine x_sqT ?_ | refine x_sqS ?_ | refine x_isL ?_ | refine x_out ?_ | refine x_some ?_ | refine x_objL ?_ | refine x_objI ?_ | refine x_objD ?_ | refine x_cls ?_ | refine fl_nx ?_ | refine fl_ct ?_ | refine x_r1 (by with_unfolding_all omega) ?_ | refine x_r2 (by with_unfolding_all omega) ?_ | refine w_var (by with_unfolding_all exact rfl) ?_ | refine x_env (by with_unfolding_all exact rfl) ?_ | refine x_lst (by with_unfolding_all exact rfl) ?_ | refine x_slot (by with_unfolding_all exact of_decide_eq_true rfl) ?_ | refine x_nm (by with_unfolding_all exact of_decide_eq_true rfl) ?_ | refine o_ixL (by with_unfolding_all exact rfl) ?_ | refine o_ixT (by with_unfolding_all exact rfl) ?_ | refine o_isiB (b := true) (by with_unfolding_all exact rfl) ?_ | refine o_isiB (b := false) (by with_unfolding_all exact rfl) ?_ | refine o_lenS' (by first | with_unfolding_all omega | assumption) ?_ | refine x_tp (by with_unfolding_all exact rfl) ?_ | refine x_fld (by with_unfolding_all exact rfl) (by with_unfolding_all exact rfl) ?_ | refine x_meth (by with_unfolding_all exact rfl) ⟨(by with_unfolding_all exact rfl), (by with_unfolding_all exact rfl)⟩ ?_ | refine o_pow (by with_unfolding_all decide) ?_ | refine o_mulR (by with_unfolding_all decide) ?_ | refine o_mulL (by with_unfolding_all decide) ?_ | refine o_mulL (by with_unfolding_all omega) ?_ | refine o_mod (by first | assumption | with_unfolding_all decide) ?_ | refine o_div (by first | assumption | with_unfolding_all decide) (by first | assumption | with_unfolding_all decide) ?_ | refine ⟨(by with_unfolding_all rfl), ?_⟩ | refine ⟨_, (by with_unfolding_all rfl), ?_⟩ | refine ⟨_, _, _, (by with_unfolding_all rfl), (by with_unfolding_all rfl), (by with_unfolding_all rfl), ?_⟩))
    exact ⟨_, _, _, rfl, rfl, Int.emod_nonneg _ (by omega), Int.emod_lt_of_pos _ hm⟩
def signsA : List Nat := (List.range 5).map (· + 32) ++ (List.range 54).map (· + 38)
def signsB : List Nat := (List.range 35).map (· + 92)
def signs94 : List Nat := signsA ++ signsB
theorem signs_ok (p q : Int) (many : Nat) (h2 : many ≤ 94) : wf (F_law_signs [pool p q, .int many]) fun d outs => ∃ l p' q', d = .str (S l) ∧ outs = [pool p' q'] ∧ l.length = many ∧ l.Nodup ∧ ∀ c ∈ l, c ∈ signs94 := by
  unfold F_law_signs
  with_reducible refine w_fn ?_
  unfold m_law_signs
  and_intros
  refine o_listS (l := signsA) (by decide +kernel) (by decide +kernel) ?_
  and_intros
  refine o_listS (l := signsB) (by decide +kernel) (by decide +kernel) ?_
  and_intros
  show wo (catD (.lst (signsA.map chD)) (.lst (signsB.map chD))) _ _
  refine o_catL (by decide +kernel) ?_
  rw [← List.map_append]
  show _ ∧ _
  and_intros
  refine w_loop (fun i ρ => ∃ p q rest l x, ρ = [some (pool p q), some (.int many), some (.lst (rest.map chD)), some (.str (S l)), x] ∧ l.length = i ∧ (l ++ rest).Perm signs94) ?_ ?_ ?_
  · exact ⟨p, q, signs94, [], none, rfl, rfl, .refl _⟩
  · rintro i d ρ hd ⟨p, q, rest, l, x, rfl, hl, hp⟩
    have hi : i < many := by
      have := (List.getElem?_eq_some_iff.1 hd).1
      simpa using this
    have hlen : rest.length + i = 94 := by
      have := hp.length_eq
      rw [List.length_append, hl] at this
      have e : signs94.length = 94 := rfl
      omega
    refine ⟨_, rfl, ?_⟩
    and_intros
    show wfx _ (F_law_draw [pool p q, .int ((rest.map chD).length : Nat)]) _
    refine f_use (draw_ok p q _ (by rw [List.length_map]; omega) (by rw [List.length_map]; omega)) ?_
    rintro d1 outs ⟨r, p', q', rfl, rfl, h0, hr⟩
    rw [List.length_map] at hr
    and_intros
    obtain ⟨dd, he, hpop⟩ := popAt_at (ds := rest.map chD) h0 (by rw [List.length_map]; exact hr) (by rw [List.length_map]; omega)
    rw [List.getElem?_map, Option.map_eq_some_iff] at he
    obtain ⟨c, hc, rfl⟩ := he
    refine ⟨_, hpop, ?_⟩
    rw [eraseIdx_map]
    show wo (addD (.str (S l)) (.str (S [c]))) _ _
    refine o_cat (by rw [S_len, S_len]; show l.length + 1 ≤ 2 ^ 24; omega) ?_
    rw [S_app]
    and_intros
    refine ⟨p', q', rest.eraseIdx r.toNat, l ++ [c], some d, rfl, by simp [hl], ?_⟩
    have h1 : (l ++ [c] ++ rest.eraseIdx r.toNat).Perm (l ++ rest) := by
      rw [List.append_assoc]
      exact ((erase_perm rest _ _ hc).symm).append_left l
    exact h1.trans hp
  · rintro ρ ⟨p, q, rest, l, x, rfl, hl, hp⟩
    and_intros
    have hn : (l ++ rest).Nodup := hp.nodup_iff.2 (by decide)
    refine ⟨l, p, q, rfl, rfl, by simpa using hl, (List.nodup_append.1 hn).1, fun c hc => hp.mem_iff.1 (List.mem_append_left _ hc)⟩
theorem u_draw {EF : Ex → List D → Prop} {p q many : Int} {Q : D → List D → Prop} (h1 : 1 ≤ many) (h2 : many < 10 ^ 60) (w : ∀ r p' q', 0 ≤ r → r < many → Q (.int r) [pool p' q']) : wfx EF (F_law_draw ([.non, .int many].set 0 (pool p q))) Q := by
  show wfx EF (F_law_draw [pool p q, .int many]) Q
  refine f_use (draw_ok p q many h1 h2) ?_
  rintro d outs ⟨r, p', q', rfl, rfl, h0, hr⟩
  exact w r p' q' h0 hr
theorem string_ok (p q : Int) (sg : List Nat) (most : Int) (h1 : 1 ≤ sg.length) (h2 : sg.length ≤ 100) (hm : 0 ≤ most) (hm2 : most ≤ 100) : wf (F_law_string [pool p q, .str (S sg), .int most]) fun d outs => ∃ l p' q', d = .str (S l) ∧ outs = [pool p' q'] ∧ (l.length : Int) ≤ most ∧ ∀ c ∈ l, c ∈ sg := by
  unfold F_law_string
  with_reducible refine w_fn ?_
  unfold m_law_string
  and_intros
  refine u_draw (by omega) (by omega) ?_
  intro r p q hr0 hr1
  and_intros
  refine w_loop (fun i ρ => ∃ p q l x, ρ = [some (pool p q), some (.str (S sg)), some (.int most), some (.str (S l)), x] ∧ l.length = i ∧ ∀ c ∈ l, c ∈ sg) ?_ ?_ ?_
  · exact ⟨p, q, [], none, rfl, rfl, by simp⟩
  · rintro i d ρ hd ⟨p, q, l, x, rfl, hl, hp⟩
    have hi : i < 101 := by
      have := (List.getElem?_eq_some_iff.1 hd).1
      simp at this
      omega
    refine ⟨_, rfl, ?_⟩
    and_intros
    try refine o_lenS' (by omega) ?_
    and_intros
    refine u_draw (by omega) (by omega) ?_
    intro r p q hr0 hr1
    and_intros
    refine o_ixS (by omega) hr0 hr1 ?_
    intro c hc
    and_intros
    refine o_catS (by show l.length + 1 ≤ _; omega) ?_
    and_intros
    refine ⟨p, q, l ++ [c], some d, rfl, by simp [hl], ?_⟩
    intro z hz
    rcases List.mem_append.1 hz with hz | hz
    · exact hp z hz
    · cases List.mem_singleton.1 hz
      exact List.mem_of_getElem? hc
  · rintro ρ ⟨p, q, l, x, rfl, hl, hp⟩
    and_intros
    refine ⟨l, p, q, rfl, rfl, ?_, hp⟩
    rw [hl]
    simp
    omega
theorem pool_ok (ns : List Int) (k : Nat) : wf (F_law_pool [.lst (ns.map D.int), .int k]) fun d outs => ∃ p q, d = pool p q := by
  unfold F_law_pool
  with_reducible refine w_fn ?_
  unfold m_law_pool
  and_intros
  split
  · rename_i h
    and_intros
    rw [List.length_map] at h
    have h' : k < ns.length := by simpa using h
    obtain ⟨z, h1, h2⟩ := at_in (l := ns.map D.int) (r := k) (by omega) (by rw [List.length_map]; omega)
    rw [List.getElem?_map, Option.map_eq_some_iff] at h2
    obtain ⟨y, hy, rfl⟩ := h2
    refine o_ixL h1 ?_
    and_intros
    exact ⟨_, _, rfl⟩
  · and_intros
    rw [← List.map_take]
    refine o_sumI ?_
    and_intros
    exact ⟨_, _, rfl⟩
theorem is_of_signs_ok {t sg : List Nat} (h : ∀ c ∈ t, c ∈ sg) : wf (F_is_of_signs [.str (S t), .str (S sg)]) fun d outs => d = .bl true ∧ outs = [] := by
  unfold F_is_of_signs
  with_reducible refine w_fn ?_
  unfold m_is_of_signs
  and_intros
  refine w_all (fun x => [some (.str (S t)), some (.str (S sg)), x]) none rfl ?_ ?_
  · intro d x hd
    obtain ⟨c, hc, rfl⟩ := List.mem_map.1 hd
    refine ⟨_, rfl, ?_⟩
    and_intros
    rw [decide_eq_true (h c hc)]
    and_intros
    exact ⟨_, rfl⟩
  · intro x
    and_intros
    exact ⟨rfl, rfl⟩
theorem are_signs_ok {l : List Nat} (h1 : 1 ≤ l.length) (h2 : l.length ≤ 8) (hn : l.Nodup) (ha : ∀ c ∈ l, c ∈ signs94) : wf (F_are_signs [.str (S l)]) fun d outs => d = .bl true ∧ outs = [] := by
  unfold F_are_signs
  with_reducible refine w_fn ?_
  unfold m_are_signs
  and_intros
  refine x_leI ?_
  rw [decide_eq_true (by omega)]
  and_intros
  rw [decide_eq_true (by omega)]
  and_intros
  rw [S_list]
  refine w_loop (fun i ρ => ∃ x y, ρ = [some (.str (S l)), x, y]) ⟨none, none, rfl⟩ ?_ ?_
  · rintro i d ρ hd ⟨x, y, rfl⟩
    obtain ⟨c, hc, rfl⟩ := enum_at hd
    have hb : 32 ≤ c ∧ c ≤ 126 := by
      have : ∀ c ∈ signs94, 32 ≤ c ∧ c ≤ 126 := by decide
      exact this c (ha c (List.mem_of_getElem? hc))
    have hi := (List.getElem?_eq_some_iff.1 hc).1
    refine ⟨_, rfl, ?_⟩
    and_intros
    refine x_leCh (a := 32) (by decide +kernel) ?_
    rw [decide_eq_true hb.1]
    and_intros
    refine o_leCh (a := 126) (by decide +kernel) ?_
    rw [decide_eq_true hb.2]
    and_intros
    rw [cut_to (by omega)]
    refine ⟨by rw [S_len]; show _ ≤ 2 ^ 24; omega, ?_⟩
    and_intros
    rw [decide_eq_false (nodup_take hn hc)]
    and_intros
    exact ⟨_, _, rfl⟩
  · rintro ρ ⟨x, y, rfl⟩
    and_intros
    exact ⟨rfl, rfl⟩
theorem is_integer_ok {n : Int} : wf (F_is_integer [.int n]) fun d outs => d = .bl true ∧ outs = [] := by
  unfold F_is_integer
  with_reducible refine w_fn ?_
  unfold m_is_integer
  and_intros
  exact ⟨rfl, rfl⟩
theorem law_is_integer_ok {n : Int} : wf (F_law_is_integer [.int n]) fun d outs => d = .bl true ∧ outs = [] := by
  unfold F_law_is_integer
  with_reducible refine w_fn ?_
  unfold m_law_is_integer
  and_intros
  exact ⟨rfl, rfl⟩
theorem exact_int {k : Nat} {n : Int} : wf (F_law_exact (k + 1) [.int n, .int n]) fun d outs => d = .bl true ∧ outs = [] := by
  show wf (fnSem 4 [] (m_law_exact (F_law_exact k)) _) _
  with_reducible refine w_fn ?_
  unfold m_law_exact
  and_intros
  refine f_eq law_is_integer_ok ?_
  and_intros
  rw [decide_eq_true rfl]
  exact ⟨rfl, rfl⟩
theorem exact_str {k : Nat} {l : List Nat} (h : Sg l) : wf (F_law_exact (k + 1) [.str (S l), .str (S l)]) fun d outs => d = .bl true ∧ outs = [] := by
  show wf (fnSem 4 [] (m_law_exact (F_law_exact k)) _) _
  with_reducible refine w_fn ?_
  unfold m_law_exact
  and_intros
  refine o_eqS h h ?_
  rw [decide_eq_true rfl]
  exact ⟨rfl, rfl⟩
theorem signs_sg {c : Nat} (h : c ∈ signs94) : c < 0x110000 := by
  have : ∀ c ∈ signs94, c < 0x110000 := by decide
  exact this c h
end Wk31
set_option maxHeartbeats 4000000
namespace Wk31
open PySem L2 Ip
local macro_rules | `(tactic| and_intros) => `(tactic| repeat (first | (with_reducible first | refine w_c ?_ | refine w_nil ?_ | refine w_nx ?_ | refine w_yes ?_ | refine w_pair ?_ | refine w_pairO ?_ | refine w_pairR ?_ | refine w_m2 ?_ | refine w_un ?_ | refine w_cons ?_ | refine w_own ?_ | refine w_io ?_ | refine w_arg ?_ | refine w_argI ?_ | refine w_seqI ?_ | refine w_tup ?_ | refine w_lst ?_ | refine w_and ?_ | refine w_or ?_ | refine w_notV ?_ | refine w_ite ?_ | refine w_test ?_ | refine w_not ?_ | refine w_tand ?_ | refine w_tor ?_ | refine w_chain ?_ | refine w_call0 ?_ | refine w_call1 ?_ | refine w_lstM ?_ | refine w_strM ?_ | refine w_slice ?_ | refine w_oN ?_ | refine w_oS ?_ | refine w_seq ?_ | refine w_if ?_ | refine w_ret ?_ | refine w_drop ?_ | refine w_set ?_ | refine w_setO ?_ | refine w_asg ?_ | refine w_gIx ?_ | refine w_for ?_ | refine w_fn ?_ | refine w_cutL ?_ | refine w_enumS ?_ | refine w_fld1 ?_ | refine w_fldS ?_ | refine w_make ?_ | refine w_meth ?_ | refine w_raise ?_ | refine w_try ?_ | refine w_tryC ?_ | refine w_joinRev ?_ | refine w_while ?_ | refine t_nx ?_ | refine t_ct ?_ | refine t_bk ?_ | refine t_rt ?_ | refine q_nx ?_ | refine q_rt ?_ | refine q_bk ?_ | refine q_ct ?_ | refine e_rt ?_ | refine e_nx ?_ | refine i_t ?_ | refine i_f ?_ | refine i_nt ?_ | refine i_nf ?_ | refine o_add ?_ | refine o_sub ?_ | refine o_lt ?_ | refine o_le ?_ | refine o_gt ?_ | refine o_ge ?_ | refine o_int ?_ | refine o_abs ?_ | refine o_lenL ?_ | refine o_lenT ?_ | refine o_inS ?_ | refine o_notInS ?_ | refine o_listL ?_ | refine o_listT ?_ | refine o_tupL ?_ | refine o_tupT ?_ | refine o_eqI ?_ | refine o_neI ?_ | refine o_isN ?_ | refine o_notN ?_ | refine o_rev ?_ | refine o_max ?_ | refine o_min ?_ | refine o_lenCh ?_ | refine o_notInCh ?_ | refine o_listCh ?_ | refine o_inI ?_ | refine x_bl ?_ | refine x_int ?_ | refine x_str ?_ | refine x_sqL ?_ | refine x_sqT ?_ | refine x_sqS ?_ | refine x_isL ?_ | refine x_out ?_ | refine x_some ?_ | refine x_objL ?_ | refine x_objI ?_ | refine x_objD ?_ | refine x_cls ?_ | refine fl_nx ?_ | refine fl_ct ?_ | refine x_r1 (by with_unfolding_all omega) ?_ | refine x_r2 (by with_unfolding_all omega) ?_ | refine w_var (by with_unfolding_all exact rfl) ?_ | refine x_env (by with_unfolding_all exact rfl) ?_ | refine x_lst (by with_unfolding_all exact rfl) ?_ | refine x_slot (by with_unfolding_all exact of_decide_eq_true rfl) ?_ | refine x_nm (by with_unfolding_all exact of_decide_eq_true rfl) ?_ | refine o_ixL (by with_unfolding_all exact rfl) ?_ | refine o_ixT (by with_unfolding_all exact rfl) ?_ | refine o_isiB (b := true) (by with_unfolding_all exact rfl) ?_ | refine o_isiB (b := false) (by with_unfolding_all exact rfl) ?_ | refine o_lenS' (by first | with_unfolding_all omega | assumption) ?_ | refine x_tp (by with_unfolding_all exact rfl) ?_ | refine x_fld (by with_unfolding_all exact rfl) (by with_unfolding_all exact rfl) ?_ | refine x_meth (by with_unfolding_all exact rfl) ⟨(by with_unfolding_all exact rfl), (by with_unfolding_all exact rfl)⟩ ?_ | refine o_pow (by with_unfolding_all decide) ?_ | refine o_mulR (by with_unfolding_all decide) ?_ | refine o_mulL (by with_unfolding_all decide) ?_ | refine o_mulL (by with_unfolding_all omega) ?_ | refine o_mod (by first | assumption | with_unfolding_all decide) ?_ | refine o_div (by first | assumption | with_unfolding_all decide) (by first | assumption | with_unfolding_all decide) ?_)))
open N31 hiding lt
structure Sgn (sg : List Nat) : Prop where
  s1 : 1 ≤ sg.length
  s8 : sg.length ≤ 8
  nd : sg.Nodup
  al : ∀ c ∈ sg, c ∈ signs94
theorem text_worth_ok {sg t : List Nat} (k : Sgn sg) (h : ∀ c ∈ t, c ∈ sg) : wf (F_text_worth [.str (S sg), .str (S t)]) fun d outs => d = .int (wr sg t : Nat) ∧ outs = [] := by
  have s8 := k.s8
  unfold F_text_worth
  with_reducible refine w_fn ?_
  unfold m_text_worth
  and_intros
  refine w_loop (fun i ρ => ∃ x, ρ = [some (.str (S sg)), some (.str (S t)), some (.int (wr sg (t.take i) : Nat)), x]) ⟨none, rfl⟩ ?_ ?_
  · rintro i d ρ hd ⟨x, rfl⟩
    obtain ⟨c, hc, rfl⟩ := map_at hd
    have hm := h c (List.mem_of_getElem? hc)
    refine ⟨_, rfl, ?_⟩
    and_intros
    with_reducible refine o_mulR (by omega) ?_
    and_intros
    refine o_find k.nd hm ?_
    and_intros
    rw [take_at hc, wr_snoc, show ((wr sg (t.take i) * (sg.length + 1) + (sg.idxOf c + 1) : Nat) : Int) = ((wr sg (t.take i) : Nat) : Int) * (((sg.length : Nat) : Int) + 1) + ((sg.idxOf c : Nat) : Int) + 1 by push_cast; omega]
    exact ⟨_, rfl⟩
  · rintro ρ ⟨x, rfl⟩
    rw [List.length_map, List.take_length]
    and_intros
    exact ⟨rfl, rfl⟩
theorem text_width_ok {sg t : List Nat} (k : Sgn sg) : wf (F_text_width [.str (S sg), .str (S t)]) fun d outs => d = .int ((sg.length + 1) ^ t.length : Nat) ∧ outs = [] := by
  have s8 := k.s8
  unfold F_text_width
  with_reducible refine w_fn ?_
  unfold m_text_width
  and_intros
  refine w_loop (fun i ρ => ∃ x, ρ = [some (.str (S sg)), some (.str (S t)), some (.int ((sg.length + 1) ^ i : Nat)), x]) ⟨none, rfl⟩ ?_ ?_
  · rintro i d ρ hd ⟨x, rfl⟩
    refine ⟨_, rfl, ?_⟩
    and_intros
    with_reducible refine o_mulR (by omega) ?_
    and_intros
    rw [show (((sg.length + 1) ^ (i + 1) : Nat) : Int) = (((sg.length + 1) ^ i : Nat) : Int) * (((sg.length : Nat) : Int) + 1) by rw [Nat.pow_succ]; push_cast; rfl]
    exact ⟨_, rfl⟩
  · rintro ρ ⟨x, rfl⟩
    rw [List.length_map]
    and_intros
    exact ⟨rfl, rfl⟩
theorem check_text_ok {sg t : List Nat} (k : Sgn sg) (h : ∀ c ∈ t, c ∈ sg) : wf (F_check_text [.str (S sg), .str (S t)]) fun d outs => d = .non ∧ outs = [] := by
  unfold F_check_text
  with_reducible refine w_fn ?_
  unfold m_check_text
  and_intros
  refine f_eq (are_signs_ok k.s1 k.s8 k.nd k.al) ?_
  and_intros
  refine f_eq (is_of_signs_ok h) ?_
  and_intros
  exact ⟨rfl, rfl⟩
theorem worth_of_ok {sg t : List Nat} (k : Sgn sg) (h : ∀ c ∈ t, c ∈ sg) : wf (F_worth_of [.str (S sg), .str (S t)]) fun d outs => d = .int (wr sg t : Nat) ∧ outs = [] := by
  unfold F_worth_of
  with_reducible refine w_fn ?_
  unfold m_worth_of
  and_intros
  refine f_eq (check_text_ok k h) ?_
  and_intros
  refine f_eq (text_worth_ok k h) ?_
  and_intros
  exact ⟨rfl, rfl⟩
theorem width_of_ok {sg t : List Nat} (k : Sgn sg) (h : ∀ c ∈ t, c ∈ sg) : wf (F_width_of [.str (S sg), .str (S t)]) fun d outs => d = .int ((sg.length + 1) ^ t.length : Nat) ∧ outs = [] := by
  unfold F_width_of
  with_reducible refine w_fn ?_
  unfold m_width_of
  and_intros
  refine f_eq (check_text_ok k h) ?_
  and_intros
  refine f_eq (text_width_ok k) ?_
  and_intros
  exact ⟨rfl, rfl⟩
theorem power_ok {b n : Nat} (hb : b ≤ 9) (hn : n ≤ 100000) : wf (F_law_power [.int b, .int n]) fun d outs => d = .int (b ^ n : Nat) ∧ outs = [] := by
  unfold F_law_power
  with_reducible refine w_fn ?_
  unfold m_law_power
  and_intros
  refine w_loop (fun i ρ => ∃ x, ρ = [some (.int b), some (.int n), some (.int (b ^ i : Nat)), x]) ⟨none, rfl⟩ ?_ ?_
  · rintro i d ρ hd ⟨x, rfl⟩
    refine ⟨_, rfl, ?_⟩
    and_intros
    with_reducible refine o_mulR (by omega) ?_
    and_intros
    rw [show ((b ^ (i + 1) : Nat) : Int) = ((b ^ i : Nat) : Int) * (b : Int) by rw [Nat.pow_succ]; push_cast; rfl]
    exact ⟨_, rfl⟩
  · rintro ρ ⟨x, rfl⟩
    rw [List.length_map, List.length_range]
    and_intros
    exact ⟨rfl, rfl⟩
theorem wr_take {sg t : List Nat} {c i : Nat} (hc : t[i]? = some c) : wr sg (t.take (i + 1)) * (sg.length + 1) ^ (t.length - (i + 1)) = wr sg (t.take i) * (sg.length + 1) ^ (t.length - i) + (sg.idxOf c + 1) * (sg.length + 1) ^ (t.length - 1 - i) := by
  have hi := (List.getElem?_eq_some_iff.1 hc).1
  rw [take_at hc, wr_snoc, Nat.add_mul, Nat.mul_assoc, show t.length - i = (t.length - (i + 1)) + 1 by omega, Nat.pow_succ, Nat.mul_comm (sg.length + 1), show t.length - 1 - i = t.length - (i + 1) by omega]
theorem law_worth_ok {sg t : List Nat} (k : Sgn sg) (h : ∀ c ∈ t, c ∈ sg) (hl : t.length ≤ 10000) : wf (F_law_worth [.str (S sg), .str (S t)]) fun d outs => d = .int (wr sg t : Nat) ∧ outs = [] := by
  have s8 := k.s8
  unfold F_law_worth
  with_reducible refine w_fn ?_
  unfold m_law_worth
  and_intros
  refine w_loop (fun i ρ => ∃ x, ρ = [some (.str (S sg)), some (.str (S t)), some (.int (wr sg (t.take i) * (sg.length + 1) ^ (t.length - i) : Nat)), x]) ⟨none, by rw [List.take_zero, wr_nil, Nat.zero_mul]; rfl⟩ ?_ ?_
  · rintro i d ρ hd ⟨x, rfl⟩
    obtain ⟨j, hj, rfl⟩ := map_at hd
    obtain ⟨hi, e⟩ := List.getElem?_eq_some_iff.1 hj
    rw [List.getElem_range] at e
    subst e
    have hi : i < t.length := by simpa using hi
    have hc := List.getElem?_eq_getElem hi
    have hm := h _ (List.mem_of_getElem? hc)
    refine ⟨_, rfl, ?_⟩
    and_intros
    refine o_ixS (by omega) (by omega) (by omega) ?_
    intro c hc
    have hc : t[i]? = some c := hc
    have hm := h _ (List.mem_of_getElem? hc)
    and_intros
    refine o_find k.nd hm ?_
    and_intros
    rw [show (((sg.length : Nat) : Int) + 1) = ((sg.length + 1 : Nat) : Int) by omega, show (((t.length : Nat) : Int) - 1 - (i : Nat)) = ((t.length - 1 - i : Nat) : Int) by omega]
    with_reducible refine f_eq (power_ok (by omega) (by omega)) ?_
    have hx := List.idxOf_lt_length_of_mem hm
    and_intros
    rw [wr_take hc, show ((wr sg (t.take i) * (sg.length + 1) ^ (t.length - i) + (sg.idxOf c + 1) * (sg.length + 1) ^ (t.length - 1 - i) : Nat) : Int) = ((wr sg (t.take i) * (sg.length + 1) ^ (t.length - i) : Nat) : Int) + (((sg.idxOf c : Nat) : Int) + 1) * (((sg.length + 1) ^ (t.length - 1 - i) : Nat) : Int) by push_cast; rfl]
    exact ⟨_, rfl⟩
  · rintro ρ ⟨x, rfl⟩
    rw [List.length_map, List.length_range, Int.toNat_natCast, List.take_length, Nat.sub_self, Nat.pow_zero, Nat.mul_one]
    and_intros
    exact ⟨rfl, rfl⟩
end Wk31
set_option maxHeartbeats 4000000
namespace Wk31
open PySem L2 Ip
local macro_rules | `(tactic| and_intros) => `(tactic| repeat (first | (with_reducible first | refine w_c ?_ | refine w_nil ?_ | refine w_nx ?_ | refine w_yes ?_ | refine w_pair ?_ | refine w_pairO ?_ | refine w_pairR ?_ | refine w_m2 ?_ | refine w_un ?_ | refine w_cons ?_ | refine w_own ?_ | refine w_io ?_ | refine w_arg ?_ | refine w_argI ?_ | refine w_seqI ?_ | refine w_tup ?_ | refine w_lst ?_ | refine w_and ?_ | refine w_or ?_ | refine w_notV ?_ | refine w_ite ?_ | refine w_test ?_ | refine w_not ?_ | refine w_tand ?_ | refine w_tor ?_ | refine w_chain ?_ | refine w_call0 ?_ | refine w_call1 ?_ | refine w_lstM ?_ | refine w_strM ?_ | refine w_slice ?_ | refine w_oN ?_ | refine w_oS ?_ | refine w_seq ?_ | refine w_if ?_ | refine w_ret ?_ | refine w_drop ?_ | refine w_set ?_ | refine w_setO ?_ | refine w_asg ?_ | refine w_gIx ?_ | refine w_for ?_ | refine w_fn ?_ | refine w_cutL ?_ | refine w_enumS ?_ | refine w_fld1 ?_ | refine w_fldS ?_ | refine w_make ?_ | refine w_meth ?_ | refine w_raise ?_ | refine w_try ?_ | refine w_tryC ?_ | refine w_joinRev ?_ | refine w_while ?_ | refine t_nx ?_ | refine t_ct ?_ | refine t_bk ?_ | refine t_rt ?_ | refine q_nx ?_ | refine q_rt ?_ | refine q_bk ?_ | refine q_ct ?_ | refine e_rt ?_ | refine e_nx ?_ | refine i_t ?_ | refine i_f ?_ | refine i_nt ?_ | refine i_nf ?_ | refine o_add ?_ | refine o_sub ?_ | refine o_lt ?_ | refine o_le ?_ | refine o_gt ?_ | refine o_ge ?_ | refine o_int ?_ | refine o_abs ?_ | refine o_lenL ?_ | refine o_lenT ?_ | refine o_inS ?_ | refine o_notInS ?_ | refine o_listL ?_ | refine o_listT ?_ | refine o_tupL ?_ | refine o_tupT ?_ | refine o_eqI ?_ | refine o_neI ?_ | refine o_isN ?_ | refine o_notN ?_ | refine o_rev ?_ | refine o_max ?_ | refine o_min ?_ | refine o_lenCh ?_ | refine o_notInCh ?_ | refine o_listCh ?_ | refine o_inI ?_ | refine x_bl ?_ | refine x_int ?_ | refine x_str ?_ | refine x_sqL ?_ | refine x_sqT ?_ | refine x_sqS ?_ | refine x_isL ?_ | refine x_out ?_ | refine x_some ?_ | refine x_objL ?_ | refine x_objI ?_ | refine x_objD ?_ | refine x_cls ?_ | refine fl_nx ?_ | refine fl_ct ?_ | refine x_r1 (by with_unfolding_all omega) ?_ | refine x_r2 (by with_unfolding_all omega) ?_ | refine w_var (by with_unfolding_all exact rfl) ?_ | refine x_env (by with_unfolding_all exact rfl) ?_ | refine x_lst (by with_unfolding_all exact rfl) ?_ | refine x_slot (by with_unfolding_all exact of_decide_eq_true rfl) ?_ | refine x_nm (by with_unfolding_all exact of_decide_eq_true rfl) ?_ | refine o_ixL (by with_unfolding_all exact rfl) ?_ | refine o_ixT (by with_unfolding_all exact rfl) ?_ | refine o_isiB (b := true) (by with_unfolding_all exact rfl) ?_ | refine o_isiB (b := false) (by with_unfolding_all exact rfl) ?_ | refine o_lenS' (by first | with_unfolding_all omega | assumption) ?_ | refine x_tp (by with_unfolding_all exact rfl) ?_ | refine x_fld (by with_unfolding_all exact rfl) (by with_unfolding_all exact rfl) ?_ | refine x_meth (by with_unfolding_all exact rfl) ⟨(by with_unfolding_all exact rfl), (by with_unfolding_all exact rfl)⟩ ?_ | refine o_pow (by with_unfolding_all decide) ?_ | refine o_mulR (by with_unfolding_all decide) ?_ | refine o_mulL (by with_unfolding_all decide) ?_ | refine o_mulL (by with_unfolding_all omega) ?_ | refine o_mod (by first | assumption | with_unfolding_all decide) ?_ | refine o_div (by first | assumption | with_unfolding_all decide) (by first | assumption | with_unfolding_all decide) ?_)))
open N31 hiding lt
theorem sing_flat : ∀ l : List Nat, (l.map fun c => [c]).flatten = l
  | [] => rfl
  | c :: l => by rw [List.map_cons, List.flatten_cons, sing_flat l]; rfl
theorem sing_rev (l : List Nat) : (l.map fun c => [c]).reverse.flatten = l.reverse := by rw [← List.map_reverse, sing_flat]
theorem sing_chD (l : List Nat) : l.map chD = (l.map fun c => [c]).map fun l => D.str (S l) := by rw [List.map_map]; rfl
theorem figs_len {b : Nat} (hb : 2 ≤ b) : ∀ (k n : Nat), n < 2 ^ k → (figs b n).length ≤ k
  | 0, n, h => by
    have : n = 0 := by simpa using h
    subst this
    rw [figs_0]; simp
  | k + 1, n, h => by
    by_cases hn : 0 < n
    · rw [figs_s hb hn, List.length_cons]
      have : n / b < 2 ^ k := by
        rw [Nat.pow_succ] at h
        have : n / b ≤ n / 2 := Nat.div_le_div_left hb (by omega)
        omega
      have := figs_len hb k _ this
      omega
    · have : n = 0 := by omega
      subst this
      rw [figs_0]; simp
def txD (sg : List Nat) (n : Nat) : D := if 0 ∈ figs (sg.length + 1) n then .non else .str (S (tx sg n))
theorem txD_no {sg : List Nat} {n : Nat} (h : 0 ∈ figs (sg.length + 1) n) : txD sg n = .non := if_pos h
theorem txD_yes {sg : List Nat} {n : Nat} (h : Good sg n) : txD sg n = .str (S (tx sg n)) := if_neg h
abbrev testT : Ip.Env → Ip.R Bool := mTest (m2 gtD (mPair (mVar 1) (mC (.int 0))))
abbrev bodyT : Ip.Env → Ip.R Fl := (mSeq (mAsg (mArg oDivmod (mCons (mVar 1) (mCons (m2 addD (mPair (mArg oLen (mCons (mVar 0) mNil)) (mC (.int 1)))) mNil))) (gTp 2 (gsCons (gNm 1) (gsCons (gNm 3) gsNil)))) (mSeq (mIfS (mTest (m2 eqD (mPair (mVar 3) (mC (.int 0))))) (mRet (mC .non)) mNx) (mDrop (mLstM 2 stAppend (mCons (m2 ixD (mPair (mVar 0) (m2 subD (mPair (mVar 3) (mC (.int 1)))))) mNil)))))
theorem text_loop {sg : List Nat} (k : Sgn sg) {E : Ex → Ip.Env → Prop} {PS : Fl → Ip.Env → Prop} : ∀ (m fuel : Nat) (acc : List Nat) (x : Option D), m < fuel → acc.length + (figs (sg.length + 1) m).length ≤ 100000 → (0 ∈ figs (sg.length + 1) m → ∀ ρ, PS (.rt .non) ρ) →
    (Good sg m → ∀ x, PS .nx [some (.str (S sg)), some (.int 0), some (.lst ((acc ++ (figs (sg.length + 1) m).map (N31.lt sg)).map chD)), x]) → wpx E (whileL testT bodyT fuel [some (.str (S sg)), some (.int m), some (.lst (acc.map chD)), x]) PS := by
  have s1 := k.s1
  have s8 := k.s8
  intro m
  induction m using Nat.strongRecOn with
  | ind m ih =>
    intro fuel acc x hf hl hb hg
    cases fuel with
    | zero => exact absurd hf (by omega)
    | succ fuel =>
      refine w_turn ?_
      unfold testT
      and_intros
      by_cases hm : 0 < m
      · rw [decide_eq_true (show (0 : Int) < (m : Int) by omega)]
        and_intros
        unfold bodyT
        and_intros
        refine o_divmod (by omega) ?_
        rw [show ((m : Int) / (((sg.length : Nat) : Int) + 1)) = ((m / (sg.length + 1) : Nat) : Int) by push_cast; rfl, show ((m : Int) % (((sg.length : Nat) : Int) + 1)) = ((m % (sg.length + 1) : Nat) : Int) by push_cast; rfl]
        rw [figs_s (by omega) hm] at hb hg hl
        unfold Good at hg
        rw [figs_s (by omega) hm] at hg
        and_intros
        by_cases hz : m % (sg.length + 1) = 0
        · rw [decide_eq_true (show ((m % (sg.length + 1) : Nat) : Int) = 0 by omega)]
          and_intros
          exact hb (by rw [hz]; exact List.mem_cons_self) _
        · rw [decide_eq_false (show ¬ ((m % (sg.length + 1) : Nat) : Int) = 0 by omega)]
          and_intros
          have hlt := Nat.mod_lt m (show 0 < sg.length + 1 by omega)
          refine o_ixS (by omega) (by omega) (by omega) ?_
          intro c hc
          have hc2 := N31.lt_mem (sg := sg) (d := m % (sg.length + 1)) (by omega) hlt
          have hc : sg[(((m % (sg.length + 1) : Nat) : Int) - 1).toNat]? = some c := hc
          rw [show (((m % (sg.length + 1) : Nat) : Int) - 1).toNat = m % (sg.length + 1) - 1 by omega, hc2] at hc
          have hc := Option.some.inj hc
          subst hc
          and_intros
          rw [List.length_cons] at hl
          refine x_app (by rw [List.length_map]; omega) ?_
          and_intros
          have e : acc.map chD ++ [D.str (S [N31.lt sg (m % (sg.length + 1))])] = (acc ++ [N31.lt sg (m % (sg.length + 1))]).map chD := by rw [List.map_append]; rfl
          rw [e]
          refine ih _ (Nat.div_lt_self hm (by omega)) fuel _ _ (by have := Nat.div_lt_self hm (show 1 < sg.length + 1 by omega); omega) (by rw [List.length_append]; simp; omega) (fun z ρ => hb (List.mem_cons_of_mem _ z) ρ) fun z x => ?_
          have := hg (fun q => (List.mem_cons.1 q).elim (fun q => hz q.symm) z) x
          rw [List.map_cons] at this
          rw [List.append_assoc]
          exact this
      · have : m = 0 := by omega
        subst this
        rw [decide_eq_false (by decide)]
        and_intros
        have := hg (by unfold Good; rw [figs_0]; simp) x
        rw [figs_0, List.map_nil, List.append_nil] at this
        exact this
theorem text_of_ok {sg : List Nat} (k : Sgn sg) {n : Nat} (hl : (figs (sg.length + 1) n).length ≤ 100000) : wf (F_text_of [.str (S sg), .int n]) fun d outs => d = txD sg n ∧ outs = [] := by
  unfold F_text_of
  with_reducible refine w_fn ?_
  unfold m_text_of
  and_intros
  refine f_eq (are_signs_ok k.s1 k.s8 k.nd k.al) ?_
  and_intros
  refine f_eq is_integer_ok ?_
  and_intros
  rw [decide_eq_false (show ¬ (n : Int) < 0 by omega)]
  and_intros
  refine text_loop k n (n + 1) [] none (by omega) (by simpa using hl) ?_ ?_
  · intro z ρ
    and_intros
    exact ⟨(txD_no z).symm, rfl⟩
  · intro z x
    and_intros
    rw [List.nil_append]
    show wo (oJoinRev (S []) (.lst (((figs (sg.length + 1) n).map (N31.lt sg)).map chD))) _ _
    rw [sing_chD]
    refine o_joinRev (by rw [sing_flat, List.length_map]; show _ ≤ 2 ^ 24; omega) ?_
    rw [sing_rev]
    and_intros
    exact ⟨(txD_yes z).symm, rfl⟩
end Wk31
set_option maxHeartbeats 4000000
namespace Wk31
open PySem L2 Ip
local macro_rules | `(tactic| and_intros) => `(tactic| repeat (first | (with_reducible first | refine w_c ?_ | refine w_nil ?_ | refine w_nx ?_ | refine w_yes ?_ | refine w_pair ?_ | refine w_pairO ?_ | refine w_pairR ?_ | refine w_m2 ?_ | refine w_un ?_ | refine w_cons ?_ | refine w_own ?_ | refine w_io ?_ | refine w_arg ?_ | refine w_argI ?_ | refine w_seqI ?_ | refine w_tup ?_ | refine w_lst ?_ | refine w_and ?_ | refine w_or ?_ | refine w_notV ?_ | refine w_ite ?_ | refine w_test ?_ | refine w_not ?_ | refine w_tand ?_ | refine w_tor ?_ | refine w_chain ?_ | refine w_call0 ?_ | refine w_call1 ?_ | refine w_lstM ?_ | refine w_strM ?_ | refine w_slice ?_ | refine w_oN ?_ | refine w_oS ?_ | refine w_seq ?_ | refine w_if ?_ | refine w_ret ?_ | refine w_drop ?_ | refine w_set ?_ | refine w_setO ?_ | refine w_asg ?_ | refine w_gIx ?_ | refine w_for ?_ | refine w_fn ?_ | refine w_cutL ?_ | refine w_enumS ?_ | refine w_fld1 ?_ | refine w_fldS ?_ | refine w_make ?_ | refine w_meth ?_ | refine w_raise ?_ | refine w_try ?_ | refine w_tryC ?_ | refine w_joinRev ?_ | refine w_while ?_ | refine t_nx ?_ | refine t_ct ?_ | refine t_bk ?_ | refine t_rt ?_ | refine q_nx ?_ | refine q_rt ?_ | refine q_bk ?_ | refine q_ct ?_ | refine e_rt ?_ | refine e_nx ?_ | refine i_t ?_ | refine i_f ?_ | refine i_nt ?_ | refine i_nf ?_ | refine o_add ?_ | refine o_sub ?_ | refine o_lt ?_ | refine o_le ?_ | refine o_gt ?_ | refine o_ge ?_ | refine o_int ?_ | refine o_abs ?_ | refine o_lenL ?_ | refine o_lenT ?_ | refine o_inS ?_ | refine o_notInS ?_ | refine o_listL ?_ | refine o_listT ?_ | refine o_tupL ?_ | refine o_tupT ?_ | refine o_eqI ?_ | refine o_neI ?_ | refine o_isN ?_ | refine o_notN ?_ | refine o_rev ?_ | refine o_max ?_ | refine o_min ?_ | refine o_lenCh ?_ | refine o_notInCh ?_ | refine o_listCh ?_ | refine o_inI ?_ | refine x_bl ?_ | refine x_int ?_ | refine x_str ?_ | refine x_sqL ?_ | refine x_sqT ?_ | refine x_sqS ?_ | refine x_isL ?_ | refine x_out ?_ | refine x_some ?_ | refine x_objL ?_ | refine x_objI ?_ | refine x_objD ?_ | refine x_cls ?_ | refine fl_nx ?_ | refine fl_ct ?_ | refine x_r1 (by with_unfolding_all omega) ?_ | refine x_r2 (by with_unfolding_all omega) ?_ | refine w_var (by with_unfolding_all exact rfl) ?_ | refine x_env (by with_unfolding_all exact rfl) ?_ | refine x_lst (by with_unfolding_all exact rfl) ?_ | refine x_slot (by with_unfolding_all exact of_decide_eq_true rfl) ?_ | refine x_nm (by with_unfolding_all exact of_decide_eq_true rfl) ?_ | refine o_ixL (by with_unfolding_all exact rfl) ?_ | refine o_ixT (by with_unfolding_all exact rfl) ?_ | refine o_isiB (b := true) (by with_unfolding_all exact rfl) ?_ | refine o_isiB (b := false) (by with_unfolding_all exact rfl) ?_ | refine o_lenS' (by first | with_unfolding_all omega | assumption) ?_ | refine x_tp (by with_unfolding_all exact rfl) ?_ | refine x_fld (by with_unfolding_all exact rfl) (by with_unfolding_all exact rfl) ?_ | refine x_meth (by with_unfolding_all exact rfl) ⟨(by with_unfolding_all exact rfl), (by with_unfolding_all exact rfl)⟩ ?_ | refine o_pow (by with_unfolding_all decide) ?_ | refine o_mulR (by with_unfolding_all decide) ?_ | refine o_mulL (by with_unfolding_all decide) ?_ | refine o_mulL (by with_unfolding_all omega) ?_ | refine o_mod (by first | assumption | with_unfolding_all decide) ?_ | refine o_div (by first | assumption | with_unfolding_all decide) (by first | assumption | with_unfolding_all decide) ?_)))
open N31 hiding lt
def zs (l : List Nat) : List Int := l.map fun d => ((d : Nat) : Int)
theorem zs_has (l : List Nat) : (zs l).contains (0 : Int) = decide (0 ∈ l) := by
  unfold zs
  induction l with
  | nil => rfl
  | cons d l ih =>
    rw [List.map_cons, List.contains_cons, ih]
    by_cases h : d = 0
    · subst h; simp
    · have h2 : ((0 : Int) == ((d : Nat) : Int)) = false := by
        rw [beq_eq_false_iff_ne]; omega
      rw [h2, Bool.false_or]
      exact decide_eq_decide.2 ⟨fun z => List.mem_cons_of_mem _ z, fun z => (List.mem_cons.1 z).elim (fun e => absurd e.symm h) id⟩
theorem law_text_ok {sg : List Nat} (k : Sgn sg) {n : Nat} (hl : (figs (sg.length + 1) n).length ≤ 200) : wf (F_law_text [.str (S sg), .int n]) fun d outs => d = txD sg n ∧ outs = [] := by
  have s1 := k.s1
  have s8 := k.s8
  unfold F_law_text
  with_reducible refine w_fn ?_
  unfold m_law_text
  and_intros
  rw [show (((sg.length : Nat) : Int) + 1) = ((sg.length + 1 : Nat) : Int) by omega]
  have fin : ∀ x, wsq (fun e ρ => noF e (outsOf [] ρ)) (mSeq (mIfS (mTest (m2 inID (mPairR (mC (.int 0)) 3))) (mRet (mC .non)) mNx) (mRet (mStrM oJoin (mC (.str "")) (mCons (mLc (mSeqI (mUn revD (mVar 3))) (gNm 5) mYes (m2 ixD (mPair (mVar 0) (m2 subD (mPair (mVar 5) (mC (.int 1)))))) [5]) mNil)))) (wfe [] fun d outs => d = txD sg n ∧ outs = []) Fl.nx [some (.str (S sg)), some (.int (0 : Nat)), some (.int (sg.length + 1 : Nat)), some (.lst ((zs (figs (sg.length + 1) n)).map D.int)), x, none] := by
    intro x
    and_intros
    rw [zs_has]
    by_cases hz : 0 ∈ figs (sg.length + 1) n
    · rw [decide_eq_true hz]
      and_intros
      exact ⟨(txD_no hz).symm, rfl⟩
    · rw [decide_eq_false hz]
      and_intros
      refine w_mapT (l := (figs (sg.length + 1) n).reverse) (fun d => D.int ((d : Nat) : Int)) (fun d => D.str (S [N31.lt sg d])) ?_
      and_intros
      refine ⟨?_, by rw [List.length_reverse]; show _ < 2 ^ 24; omega, ?_, ?_⟩
      · rw [← List.map_reverse, zs, ← List.map_reverse, List.map_map]; rfl
      · intro d hd
        have hd := List.mem_reverse.1 hd
        have h1 : 1 ≤ d := by
          have : d ≠ 0 := fun e => hz (e ▸ hd)
          omega
        have h2 := figs_lt (b := sg.length + 1) (by omega) n d hd
        refine ⟨_, rfl, ?_⟩
        and_intros
        refine o_ixS (by omega) (by omega) (by omega) ?_
        intro c hc
        have hc : sg[(((d : Nat) : Int) - 1).toNat]? = some c := hc
        rw [show (((d : Nat) : Int) - 1).toNat = d - 1 by omega, N31.lt_mem h1 h2] at hc
        have hc := Option.some.inj hc
        subst hc
        exact ⟨rfl, rfl⟩
      and_intros
      rw [show Str.ofString "" = S [] by decide +kernel, show (figs (sg.length + 1) n).reverse.map (fun d => D.str (S [N31.lt sg d])) = (((figs (sg.length + 1) n).reverse.map (N31.lt sg)).map fun c => [c]).map fun l => D.str (S l) by rw [List.map_map, List.map_map]; rfl]
      refine o_joinE (by rw [sing_flat, List.length_map, List.length_reverse]; show _ ≤ 2 ^ 24; omega) ?_
      rw [sing_flat, List.map_reverse]
      and_intros
      exact ⟨(txD_yes hz).symm, rfl⟩
  refine w_run (fun i ρ => ∃ m fs x, ρ = [some (.str (S sg)), some (.int (m : Nat)), some (.int (sg.length + 1 : Nat)), some (.lst ((zs fs).map D.int)), x, none] ∧ fs ++ figs (sg.length + 1) m = figs (sg.length + 1) n ∧ fs.length = i) ⟨n, [], none, rfl, rfl, rfl⟩ ?_ ?_
  · rintro i d ρ hd ⟨m, fs, x, rfl, he, hi⟩
    refine ⟨_, rfl, ?_⟩
    and_intros
    by_cases hm : m = 0
    · rw [decide_eq_true (show ((m : Nat) : Int) = 0 by omega)]
      subst hm
      rw [figs_0, List.append_nil] at he
      subst he
      and_intros
      exact .inr (.inl ⟨rfl, fin _⟩)
    · rw [decide_eq_false (show ¬ ((m : Nat) : Int) = 0 by omega)]
      and_intros
      have hfs : fs.length ≤ 200 := by
        have := congrArg List.length he
        rw [List.length_append] at this
        omega
      refine o_mod (by omega) ?_
      and_intros
      refine x_app (by rw [List.length_map]; unfold zs; rw [List.length_map]; omega) ?_
      and_intros
      refine o_div (by omega) (log_small (by omega) (by omega)) ?_
      and_intros
      refine .inl ⟨.inl rfl, m / (sg.length + 1), fs ++ [m % (sg.length + 1)], some d, ?_, ?_, by simp [hi]⟩
      · rw [show ((m : Int) / ((sg.length + 1 : Nat) : Int)) = ((m / (sg.length + 1) : Nat) : Int) by push_cast; rfl, show ((m : Int) % ((sg.length + 1 : Nat) : Int)) = ((m % (sg.length + 1) : Nat) : Int) by push_cast; rfl]
        unfold zs
        rw [List.map_append, List.map_append]
        rfl
      · rw [figs_s (by omega) (by omega)] at he
        rw [← he, List.append_assoc]
        rfl
  · rintro ρ ⟨m, fs, x, rfl, he, hi⟩
    rw [List.length_map, List.length_range] at hi
    have hi : fs.length = 200 := hi
    have : (figs (sg.length + 1) m).length = 0 := by
      have := congrArg List.length he
      rw [List.length_append] at this
      omega
    have hm : m = 0 := by
      by_cases hm : 0 < m
      · rw [figs_s (by omega) hm] at this
        simp at this
      · omega
    subst hm
    rw [figs_0, List.append_nil] at he
    subst he
    exact fin _
theorem idx_map {E : Ex → Ip.Env → Prop} {sg t : List Nat} {x1 x2 x3 : Option D} {P : D → Ip.Env → Prop} {i : Nat} (k : Sgn sg) (h : ∀ c ∈ t, c ∈ sg) (hl : t.length ≤ 1000) (hi : i < 3) (e : ([some (.str (S sg)), x1, x2, x3] : Ip.Env).getD i none = some (.str (S t))) (w : P (.lst ((idxs sg t).map D.int)) [some (.str (S sg)), x1, x2, x3]) :
    wpx E (mLc (mSeqI (mVar i)) (gNm 3) mYes (mStrM oFind (mVar 0) (mCons (mVar 3) mNil)) [3] [some (.str (S sg)), x1, x2, x3]) P := by
  refine w_mapT (l := t) chD (fun c => D.int ((sg.idxOf c : Nat) : Int)) ?_
  refine w_seqI (w_var e ?_)
  refine x_sqS ?_
  refine ⟨rfl, by show _ < 2 ^ 24; omega, ?_, ?_⟩
  · intro c hc
    refine ⟨_, rfl, ?_⟩
    and_intros
    refine o_find k.nd (h c hc) ?_
    exact ⟨rfl, rfl⟩
  · have e2 : t.map (fun c => D.int ((sg.idxOf c : Nat) : Int)) = (idxs sg t).map D.int := by unfold idxs; rw [List.map_map]; rfl
    rw [e2]
    exact w
theorem law_ahead_ok {sg t u : List Nat} (k : Sgn sg) (ht : ∀ c ∈ t, c ∈ sg) (hu : ∀ c ∈ u, c ∈ sg) (lt : t.length ≤ 1000) (lu : u.length ≤ 1000) (h : wr sg t < wr sg u) : wf (F_law_ahead [.str (S sg), .str (S t), .str (S u)]) fun d outs => d = .bl true ∧ outs = [] := by
  unfold F_law_ahead
  with_reducible refine w_fn ?_
  unfold m_law_ahead
  and_intros
  rcases ahead k.s1 ht hu h with q | ⟨q, q2⟩
  · rw [decide_eq_false (show ¬ ((t.length : Nat) : Int) = ((u.length : Nat) : Int) by omega)]
    and_intros
    rw [decide_eq_true (show ((t.length : Nat) : Int) < ((u.length : Nat) : Int) by omega)]
    exact ⟨rfl, rfl⟩
  · rw [decide_eq_true (show ((t.length : Nat) : Int) = ((u.length : Nat) : Int) by omega)]
    and_intros
    refine idx_map k ht lt (by omega) rfl ?_
    refine idx_map k hu lu (by omega) rfl ?_
    refine o_ltL q2 (by unfold idxs; rw [List.length_map, List.length_map]; exact q) ?_
    and_intros
    exact ⟨rfl, rfl⟩
end Wk31
set_option maxHeartbeats 4000000
namespace Wk31
open PySem L2 Ip
local macro_rules | `(tactic| and_intros) => `(tactic| repeat (first | (with_reducible first | refine w_c ?_ | refine w_nil ?_ | refine w_nx ?_ | refine w_yes ?_ | refine w_pair ?_ | refine w_pairO ?_ | refine w_pairR ?_ | refine w_m2 ?_ | refine w_un ?_ | refine w_cons ?_ | refine w_own ?_ | refine w_io ?_ | refine w_arg ?_ | refine w_argI ?_ | refine w_seqI ?_ | refine w_tup ?_ | refine w_lst ?_ | refine w_and ?_ | refine w_or ?_ | refine w_notV ?_ | refine w_ite ?_ | refine w_test ?_ | refine w_not ?_ | refine w_tand ?_ | refine w_tor ?_ | refine w_chain ?_ | refine w_call0 ?_ | refine w_call1 ?_ | refine w_lstM ?_ | refine w_strM ?_ | refine w_slice ?_ | refine w_oN ?_ | refine w_oS ?_ | refine w_seq ?_ | refine w_if ?_ | refine w_ret ?_ | refine w_drop ?_ | refine w_set ?_ | refine w_setO ?_ | refine w_asg ?_ | refine w_gIx ?_ | refine w_for ?_ | refine w_fn ?_ | refine w_cutL ?_ | refine w_enumS ?_ | refine w_fld1 ?_ | refine w_fldS ?_ | refine w_make ?_ | refine w_meth ?_ | refine w_raise ?_ | refine w_try ?_ | refine w_tryC ?_ | refine w_joinRev ?_ | refine w_while ?_ | refine t_nx ?_ | refine t_ct ?_ | refine t_bk ?_ | refine t_rt ?_ | refine q_nx ?_ | refine q_rt ?_ | refine q_bk ?_ | refine q_ct ?_ | refine e_rt ?_ | refine e_nx ?_ | refine i_t ?_ | refine i_f ?_ | refine i_nt ?_ | refine i_nf ?_ | refine o_add ?_ | refine o_sub ?_ | refine o_lt ?_ | refine o_le ?_ | refine o_gt ?_ | refine o_ge ?_ | refine o_int ?_ | refine o_abs ?_ | refine o_lenL ?_ | refine o_lenT ?_ | refine o_inS ?_ | refine o_notInS ?_ | refine o_listL ?_ | refine o_listT ?_ | refine o_tupL ?_ | refine o_tupT ?_ | refine o_eqI ?_ | refine o_neI ?_ | refine o_isN ?_ | refine o_notN ?_ | refine o_rev ?_ | refine o_max ?_ | refine o_min ?_ | refine o_lenCh ?_ | refine o_notInCh ?_ | refine o_listCh ?_ | refine o_inI ?_ | refine x_bl ?_ | refine x_int ?_ | refine x_str ?_ | refine x_sqL ?_ | refine x_sqT ?_ | refine x_sqS ?_ | refine x_isL ?_ | refine x_out ?_ | refine x_some ?_ | refine x_objL ?_ | refine x_objI ?_ | refine x_objD ?_ | refine x_cls ?_ | refine fl_nx ?_ | refine fl_ct ?_ | refine x_r1 (by with_unfolding_all omega) ?_ | refine x_r2 (by with_unfolding_all omega) ?_ | refine w_var (by with_unfolding_all exact rfl) ?_ | refine x_env (by with_unfolding_all exact rfl) ?_ | refine x_lst (by with_unfolding_all exact rfl) ?_ | refine x_slot (by with_unfolding_all exact of_decide_eq_true rfl) ?_ | refine x_nm (by with_unfolding_all exact of_decide_eq_true rfl) ?_ | refine o_ixL (by with_unfolding_all exact rfl) ?_ | refine o_ixT (by with_unfolding_all exact rfl) ?_ | refine o_isiB (b := true) (by with_unfolding_all exact rfl) ?_ | refine o_isiB (b := false) (by with_unfolding_all exact rfl) ?_ | refine o_lenS' (by first | with_unfolding_all omega | assumption) ?_ | refine x_tp (by with_unfolding_all exact rfl) ?_ | refine x_fld (by with_unfolding_all exact rfl) (by with_unfolding_all exact rfl) ?_ | refine x_meth (by with_unfolding_all exact rfl) ⟨(by with_unfolding_all exact rfl), (by with_unfolding_all exact rfl)⟩ ?_ | refine o_pow (by with_unfolding_all decide) ?_ | refine o_mulR (by with_unfolding_all decide) ?_ | refine o_mulL (by with_unfolding_all decide) ?_ | refine o_mulL (by with_unfolding_all omega) ?_ | refine o_mod (by first | assumption | with_unfolding_all decide) ?_ | refine o_div (by first | assumption | with_unfolding_all decide) (by first | assumption | with_unfolding_all decide) ?_)))
open N31 hiding lt
def NotTx (sg : List Nat) (d : D) : Prop := (∃ l, d = .str (S l) ∧ ∃ c ∈ l, c ∉ sg) ∨ isiD "str" d = some (.bl false)
theorem is_of_signs_bad {d : D} {ls : List Nat} (h : NotTx ls d) : wf (F_is_of_signs [d, .str (S ls)]) fun d outs => d = .bl false ∧ outs = [] := by
  unfold F_is_of_signs
  with_reducible refine w_fn ?_
  unfold m_is_of_signs
  rcases h with ⟨l, rfl, c, hc, hn⟩ | h
  · and_intros
    refine w_run (fun i ρ => (∃ x, ρ = [some (.str (S l)), some (.str (S ls)), x]) ∧ ∀ c ∈ l.take i, c ∈ ls) ⟨⟨none, rfl⟩, by simp⟩ ?_ ?_
    · rintro i d ρ hd ⟨⟨x, rfl⟩, hi⟩
      obtain ⟨e, he, rfl⟩ := map_at hd
      refine ⟨_, rfl, ?_⟩
      by_cases hm : e ∈ ls
      · and_intros
        rw [decide_eq_true hm]
        and_intros
        refine .inl ⟨.inl rfl, ⟨_, rfl⟩, ?_⟩
        rw [take_at he]
        intro z hz
        rcases List.mem_append.1 hz with hz | hz
        · exact hi z hz
        · rw [List.mem_singleton.1 hz]; exact hm
      · and_intros
        rw [decide_eq_false hm]
        and_intros
        exact .inr (.inr ⟨_, rfl, rfl, rfl⟩)
    · rintro ρ ⟨_, hi⟩
      rw [List.length_map, List.take_length] at hi
      exact absurd (hi c hc) hn
  · and_intros
    refine o_isiB (b := false) h ?_
    and_intros
    exact ⟨rfl, rfl⟩

def NoSg (d : D) : Prop := wf (F_are_signs [d]) fun d outs => d = .bl false ∧ outs = []
theorem noSg_ty {d : D} (h : isiD "str" d = some (.bl false)) : NoSg d := by
  unfold NoSg F_are_signs
  with_reducible refine w_fn ?_
  unfold m_are_signs
  and_intros
  refine o_isiB (b := false) h ?_
  and_intros
  exact ⟨rfl, rfl⟩
theorem noSg_txt {l : List Nat} (hl : l.length ≤ 100) (h : ¬ (1 ≤ l.length ∧ l.length ≤ 8 ∧ l.Nodup ∧ ∀ c ∈ l, 32 ≤ c ∧ c ≤ 126)) : NoSg (.str (S l)) := by
  unfold NoSg F_are_signs
  with_reducible refine w_fn ?_
  unfold m_are_signs
  and_intros
  refine x_leI ?_
  by_cases h1 : 1 ≤ l.length
  · rw [decide_eq_true (show (1 : Int) ≤ ((l.length : Nat) : Int) by omega)]
    and_intros
    by_cases h8 : l.length ≤ 8
    · rw [decide_eq_true (show ((l.length : Nat) : Int) ≤ 8 by omega)]
      and_intros
      rw [S_list]
      refine w_run (fun i ρ => (∃ x y, ρ = [some (.str (S l)), x, y]) ∧ (l.take i).Nodup ∧ ∀ c ∈ l.take i, 32 ≤ c ∧ c ≤ 126) ⟨⟨none, none, rfl⟩, by simp, by simp⟩ ?_ ?_
      · rintro i d ρ hd ⟨⟨x, y, rfl⟩, hn, hc⟩
        obtain ⟨c, hi, rfl⟩ := enum_at hd
        have hil := (List.getElem?_eq_some_iff.1 hi).1
        refine ⟨_, rfl, ?_⟩
        and_intros
        refine x_leCh (a := 32) (by decide +kernel) ?_
        by_cases a1 : 32 ≤ c
        · rw [decide_eq_true a1]
          and_intros
          refine o_leCh (a := 126) (by decide +kernel) ?_
          by_cases a2 : c ≤ 126
          · rw [decide_eq_true a2]
            and_intros
            rw [cut_to (by omega)]
            refine ⟨by rw [S_len]; show _ ≤ 2 ^ 24; omega, ?_⟩
            and_intros
            by_cases a3 : c ∈ l.take i
            · rw [decide_eq_true a3]
              and_intros
              exact .inr (.inr ⟨_, rfl, rfl, rfl⟩)
            · rw [decide_eq_false a3]
              and_intros
              refine .inl ⟨.inl rfl, ⟨_, _, rfl⟩, ?_, ?_⟩
              · rw [take_at hi]
                refine List.nodup_append.2 ⟨hn, by simp, fun z hz y hy e => ?_⟩
                rw [List.mem_singleton.1 hy] at e
                exact a3 (e ▸ hz)
              · rw [take_at hi]
                intro z hz
                rcases List.mem_append.1 hz with hz | hz
                · exact hc z hz
                · rw [List.mem_singleton.1 hz]; exact ⟨a1, a2⟩
          · rw [decide_eq_false a2]
            and_intros
            exact .inr (.inr ⟨_, rfl, rfl, rfl⟩)
        · rw [decide_eq_false a1]
          and_intros
          exact .inr (.inr ⟨_, rfl, rfl, rfl⟩)
      · rintro ρ ⟨_, hn, hc⟩
        rw [enumL_len, List.length_map, List.take_length] at hn hc
        exact absurd ⟨h1, h8, hn, hc⟩ h
    · rw [decide_eq_false (show ¬ ((l.length : Nat) : Int) ≤ 8 by omega)]
      and_intros
      exact ⟨rfl, rfl⟩
  · rw [decide_eq_false (show ¬ (1 : Int) ≤ ((l.length : Nat) : Int) by omega)]
    and_intros
    exact ⟨rfl, rfl⟩
abbrev xS (e : Ex) (outs : List D) : Prop := e = ⟨"NoSigns", none⟩ ∧ outs = []
abbrev xT (e : Ex) (outs : List D) : Prop := e = ⟨"NoText", none⟩ ∧ outs = []
abbrev xN (e : Ex) (outs : List D) : Prop := e = ⟨"NoNumber", none⟩ ∧ outs = []
theorem check_text_badS {d t : D} (h : NoSg d) : wfx xS (F_check_text [d, t]) fun _ _ => False := by
  unfold F_check_text
  with_reducible refine w_fn ?_
  unfold m_check_text
  and_intros
  refine f_eq h ?_
  and_intros
  exact ⟨rfl, rfl⟩
theorem check_text_badT {sg : List Nat} (k : Sgn sg) {t : D} (h : NotTx sg t) : wfx xT (F_check_text [.str (S sg), t]) fun _ _ => False := by
  unfold F_check_text
  with_reducible refine w_fn ?_
  unfold m_check_text
  and_intros
  refine f_eq (are_signs_ok k.s1 k.s8 k.nd k.al) ?_
  and_intros
  refine f_eq (is_of_signs_bad h) ?_
  and_intros
  exact ⟨rfl, rfl⟩
theorem worth_of_badS {d t : D} (h : NoSg d) : wfx xS (F_worth_of [d, t]) fun _ _ => False := by
  unfold F_worth_of
  with_reducible refine w_fn ?_
  unfold m_worth_of
  and_intros
  refine wf_impE (check_text_badS h) (fun _ _ h => h.elim) ?_
  rintro e outs ⟨rfl, rfl⟩
  exact ⟨rfl, rfl⟩
theorem worth_of_badT {sg : List Nat} (k : Sgn sg) {t : D} (h : NotTx sg t) : wfx xT (F_worth_of [.str (S sg), t]) fun _ _ => False := by
  unfold F_worth_of
  with_reducible refine w_fn ?_
  unfold m_worth_of
  and_intros
  refine wf_impE (check_text_badT k h) (fun _ _ h => h.elim) ?_
  rintro e outs ⟨rfl, rfl⟩
  exact ⟨rfl, rfl⟩
theorem width_of_badS {d t : D} (h : NoSg d) : wfx xS (F_width_of [d, t]) fun _ _ => False := by
  unfold F_width_of
  with_reducible refine w_fn ?_
  unfold m_width_of
  and_intros
  refine wf_impE (check_text_badS h) (fun _ _ h => h.elim) ?_
  rintro e outs ⟨rfl, rfl⟩
  exact ⟨rfl, rfl⟩
theorem width_of_badT {sg : List Nat} (k : Sgn sg) {t : D} (h : NotTx sg t) : wfx xT (F_width_of [.str (S sg), t]) fun _ _ => False := by
  unfold F_width_of
  with_reducible refine w_fn ?_
  unfold m_width_of
  and_intros
  refine wf_impE (check_text_badT k h) (fun _ _ h => h.elim) ?_
  rintro e outs ⟨rfl, rfl⟩
  exact ⟨rfl, rfl⟩
def cS : List Nat := [115, 105, 103, 110, 115]
def cT : List Nat := [116, 101, 120, 116]
def cN : List Nat := [110, 117, 109, 98, 101, 114]
theorem lS : Str.ofString "signs" = S cS := by decide +kernel
theorem lT : Str.ofString "text" = S cT := by decide +kernel
theorem lN : Str.ofString "number" = S cN := by decide +kernel
theorem lE : Str.ofString "" = S [] := by decide +kernel
theorem in4 {ρ : Ip.Env} {n k : Nat} (h : n < ρ.length) : k ∈ some n → k < ρ.length := fun e => by cases e; exact h
theorem refusal_good {sg t : List Nat} (k : Sgn sg) (h : ∀ c ∈ t, c ∈ sg) {way : Int} : wf (F_law_refusal [.str (S sg), .str (S t), .int way]) fun d outs => d = .str (S []) ∧ outs = [] := by
  unfold F_law_refusal
  with_reducible refine w_fn ?_
  unfold m_law_refusal
  and_intros
  by_cases hw : way = 0
  · rw [decide_eq_true hw]
    and_intros
    refine f_eq (worth_of_ok k h) ?_
    and_intros
    refine ⟨rfl, ?_⟩
    and_intros
    exact ⟨by rw [lE], rfl⟩
  · rw [decide_eq_false hw]
    and_intros
    refine f_eq (width_of_ok k h) ?_
    and_intros
    refine ⟨rfl, ?_⟩
    and_intros
    exact ⟨by rw [lE], rfl⟩
theorem refusal_badS {d t : D} (h : NoSg d) {way : Int} : wf (F_law_refusal [d, t, .int way]) fun d outs => d = .str (S cS) ∧ outs = [] := by
  unfold F_law_refusal
  with_reducible refine w_fn ?_
  unfold m_law_refusal
  and_intros
  by_cases hw : way = 0
  · rw [decide_eq_true hw]
    and_intros
    refine wf_impE (worth_of_badS h) (fun _ _ h => h.elim) ?_
    rintro e outs ⟨rfl, rfl⟩
    refine w_pick rfl ⟨rfl, by with_unfolding_all exact of_decide_eq_true rfl, fun k => in4 (by with_unfolding_all exact of_decide_eq_true rfl)⟩ ?_
    unfold clr
    and_intros
    exact ⟨by rw [lS], rfl⟩
  · rw [decide_eq_false hw]
    and_intros
    refine wf_impE (width_of_badS h) (fun _ _ h => h.elim) ?_
    rintro e outs ⟨rfl, rfl⟩
    refine w_pick rfl ⟨rfl, by with_unfolding_all exact of_decide_eq_true rfl, fun k => in4 (by with_unfolding_all exact of_decide_eq_true rfl)⟩ ?_
    unfold clr
    and_intros
    exact ⟨by rw [lS], rfl⟩
theorem refusal_badT {sg : List Nat} (k : Sgn sg) {t : D} (h : NotTx sg t) {way : Int} : wf (F_law_refusal [.str (S sg), t, .int way]) fun d outs => d = .str (S cT) ∧ outs = [] := by
  unfold F_law_refusal
  with_reducible refine w_fn ?_
  unfold m_law_refusal
  and_intros
  by_cases hw : way = 0
  · rw [decide_eq_true hw]
    and_intros
    refine wf_impE (worth_of_badT k h) (fun _ _ h => h.elim) ?_
    rintro e outs ⟨rfl, rfl⟩
    refine w_skip (by decide +kernel) (w_pick rfl ⟨rfl, by with_unfolding_all exact of_decide_eq_true rfl, fun k => in4 (by with_unfolding_all exact of_decide_eq_true rfl)⟩ ?_)
    unfold clr
    and_intros
    exact ⟨by rw [lT], rfl⟩
  · rw [decide_eq_false hw]
    and_intros
    refine wf_impE (width_of_badT k h) (fun _ _ h => h.elim) ?_
    rintro e outs ⟨rfl, rfl⟩
    refine w_skip (by decide +kernel) (w_pick rfl ⟨rfl, by with_unfolding_all exact of_decide_eq_true rfl, fun k => in4 (by with_unfolding_all exact of_decide_eq_true rfl)⟩ ?_)
    unfold clr
    and_intros
    exact ⟨by rw [lT], rfl⟩
end Wk31
set_option maxHeartbeats 4000000
namespace Wk31
open PySem L2 Ip
local macro_rules | `(tactic| and_intros) => `(tactic| repeat (first | (with_reducible first | refine w_c ?_ | refine w_nil ?_ | refine w_nx ?_ | refine w_yes ?_ | refine w_pair ?_ | refine w_pairO ?_ | refine w_pairR ?_ | refine w_m2 ?_ | refine w_un ?_ | refine w_cons ?_ | refine w_own ?_ | refine w_io ?_ | refine w_arg ?_ | refine w_argI ?_ | refine w_seqI ?_ | refine w_tup ?_ | refine w_lst ?_ | refine w_and ?_ | refine w_or ?_ | refine w_notV ?_ | refine w_ite ?_ | refine w_test ?_ | refine w_not ?_ | refine w_tand ?_ | refine w_tor ?_ | refine w_chain ?_ | refine w_call0 ?_ | refine w_call1 ?_ | refine w_lstM ?_ | refine w_strM ?_ | refine w_slice ?_ | refine w_oN ?_ | refine w_oS ?_ | refine w_seq ?_ | refine w_if ?_ | refine w_ret ?_ | refine w_drop ?_ | refine w_set ?_ | refine w_setO ?_ | refine w_asg ?_ | refine w_gIx ?_ | refine w_for ?_ | refine w_fn ?_ | refine w_cutL ?_ | refine w_enumS ?_ | refine w_fld1 ?_ | refine w_fldS ?_ | refine w_make ?_ | refine w_meth ?_ | refine w_raise ?_ | refine w_try ?_ | refine w_tryC ?_ | refine w_joinRev ?_ | refine w_while ?_ | refine t_nx ?_ | refine t_ct ?_ | refine t_bk ?_ | refine t_rt ?_ | refine q_nx ?_ | refine q_rt ?_ | refine q_bk ?_ | refine q_ct ?_ | refine e_rt ?_ | refine e_nx ?_ | refine i_t ?_ | refine i_f ?_ | refine i_nt ?_ | refine i_nf ?_ | refine o_add ?_ | refine o_sub ?_ | refine o_lt ?_ | refine o_le ?_ | refine o_gt ?_ | refine o_ge ?_ | refine o_int ?_ | refine o_abs ?_ | refine o_lenL ?_ | refine o_lenT ?_ | refine o_inS ?_ | refine o_notInS ?_ | refine o_listL ?_ | refine o_listT ?_ | refine o_tupL ?_ | refine o_tupT ?_ | refine o_eqI ?_ | refine o_neI ?_ | refine o_isN ?_ | refine o_notN ?_ | refine o_rev ?_ | refine o_max ?_ | refine o_min ?_ | refine o_lenCh ?_ | refine o_notInCh ?_ | refine o_listCh ?_ | refine o_inI ?_ | refine x_bl ?_ | refine x_int ?_ | refine x_str ?_ | refine x_sqL ?_ | refine x_sqT ?_ | refine x_sqS ?_ | refine x_isL ?_ | refine x_out ?_ | refine x_some ?_ | refine x_objL ?_ | refine x_objI ?_ | refine x_objD ?_ | refine x_cls ?_ | refine fl_nx ?_ | refine fl_ct ?_ | refine x_r1 (by with_unfolding_all omega) ?_ | refine x_r2 (by with_unfolding_all omega) ?_ | refine w_var (by with_unfolding_all exact rfl) ?_ | refine x_env (by with_unfolding_all exact rfl) ?_ | refine x_lst (by with_unfolding_all exact rfl) ?_ | refine x_slot (by with_unfolding_all exact of_decide_eq_true rfl) ?_ | refine x_nm (by with_unfolding_all exact of_decide_eq_true rfl) ?_ | refine o_ixL (by with_unfolding_all exact rfl) ?_ | refine o_ixT (by with_unfolding_all exact rfl) ?_ | refine o_isiB (b := true) (by with_unfolding_all exact rfl) ?_ | refine o_isiB (b := false) (by with_unfolding_all exact rfl) ?_ | refine o_lenS' (by first | with_unfolding_all omega | assumption) ?_ | refine x_tp (by with_unfolding_all exact rfl) ?_ | refine x_fld (by with_unfolding_all exact rfl) (by with_unfolding_all exact rfl) ?_ | refine x_meth (by with_unfolding_all exact rfl) ⟨(by with_unfolding_all exact rfl), (by with_unfolding_all exact rfl)⟩ ?_ | refine o_pow (by with_unfolding_all decide) ?_ | refine o_mulR (by with_unfolding_all decide) ?_ | refine o_mulL (by with_unfolding_all decide) ?_ | refine o_mulL (by with_unfolding_all omega) ?_ | refine o_mod (by first | assumption | with_unfolding_all decide) ?_ | refine o_div (by first | assumption | with_unfolding_all decide) (by first | assumption | with_unfolding_all decide) ?_)))
open N31 hiding lt
def NoNb (d : D) : Prop := (∃ i : Int, d = .int i ∧ i < 0) ∨ wf (F_is_integer [d]) fun d outs => d = .bl false ∧ outs = []
theorem text_of_badS {d n : D} (h : NoSg d) : wfx xS (F_text_of [d, n]) fun _ _ => False := by
  unfold F_text_of
  with_reducible refine w_fn ?_
  unfold m_text_of
  and_intros
  refine f_eq h ?_
  and_intros
  exact ⟨rfl, rfl⟩
theorem text_of_badN {sg : List Nat} (k : Sgn sg) {n : D} (h : NoNb n) : wfx xN (F_text_of [.str (S sg), n]) fun _ _ => False := by
  unfold F_text_of
  with_reducible refine w_fn ?_
  unfold m_text_of
  and_intros
  refine f_eq (are_signs_ok k.s1 k.s8 k.nd k.al) ?_
  and_intros
  rcases h with ⟨i, rfl, hi⟩ | h
  · refine f_eq is_integer_ok ?_
    and_intros
    rw [decide_eq_true hi]
    and_intros
    exact ⟨rfl, rfl⟩
  · refine f_eq h ?_
    and_intros
    exact ⟨rfl, rfl⟩
theorem nrefusal_good {sg : List Nat} (k : Sgn sg) {n : Nat} (hl : (figs (sg.length + 1) n).length ≤ 100000) : wf (F_law_number_refusal [.str (S sg), .int n]) fun d outs => d = .str (S []) ∧ outs = [] := by
  unfold F_law_number_refusal
  with_reducible refine w_fn ?_
  unfold m_law_number_refusal
  and_intros
  refine f_eq (text_of_ok k hl) ?_
  and_intros
  refine ⟨rfl, ?_⟩
  and_intros
  exact ⟨by rw [lE], rfl⟩
theorem nrefusal_badS {d n : D} (h : NoSg d) : wf (F_law_number_refusal [d, n]) fun d outs => d = .str (S cS) ∧ outs = [] := by
  unfold F_law_number_refusal
  with_reducible refine w_fn ?_
  unfold m_law_number_refusal
  and_intros
  refine wf_impE (text_of_badS h) (fun _ _ h => h.elim) ?_
  rintro e outs ⟨rfl, rfl⟩
  refine w_pick rfl ⟨rfl, by with_unfolding_all exact of_decide_eq_true rfl, fun k => in4 (by with_unfolding_all exact of_decide_eq_true rfl)⟩ ?_
  unfold clr
  and_intros
  exact ⟨by rw [lS], rfl⟩
theorem nrefusal_badN {sg : List Nat} (k : Sgn sg) {n : D} (h : NoNb n) : wf (F_law_number_refusal [.str (S sg), n]) fun d outs => d = .str (S cN) ∧ outs = [] := by
  unfold F_law_number_refusal
  with_reducible refine w_fn ?_
  unfold m_law_number_refusal
  and_intros
  refine wf_impE (text_of_badN k h) (fun _ _ h => h.elim) ?_
  rintro e outs ⟨rfl, rfl⟩
  refine w_skip (by decide +kernel) (w_pick rfl ⟨rfl, by with_unfolding_all exact of_decide_eq_true rfl, fun k => in4 (by with_unfolding_all exact of_decide_eq_true rfl)⟩ ?_)
  unfold clr
  and_intros
  exact ⟨by rw [lN], rfl⟩
theorem sgn_range {sg : List Nat} (k : Sgn sg) : ∀ c ∈ sg, 32 ≤ c ∧ c ≤ 126 := by
  have : ∀ c ∈ signs94, 32 ≤ c ∧ c ≤ 126 := by decide
  exact fun c hc => this c (k.al c hc)
theorem lNL : Str.ofString "\n" = S [10] := by decide +kernel
theorem lTB : Str.ofString "\t" = S [9] := by decide +kernel
theorem no_signs_ok {sg : List Nat} (k : Sgn sg) (p q : Int) : wf (F_law_no_signs [pool p q, .str (S sg)]) fun d outs => ∃ p q, outs = [pool p q] ∧ NoSg d := by
  have s1 := k.s1
  have s8 := k.s8
  unfold F_law_no_signs
  with_reducible refine w_fn ?_
  unfold m_law_no_signs
  and_intros
  refine u_draw (by omega) (by omega) ?_
  intro r p q r0 r1
  and_intros
  refine u_draw (by omega) (by omega) ?_
  intro a p q a0 a1
  obtain ⟨a, rfl⟩ : ∃ n : Nat, a = n := ⟨a.toNat, by omega⟩
  and_intros
  by_cases h0 : r = 0
  · rw [decide_eq_true h0]
    and_intros
    exact ⟨p, q, rfl, by rw [lE]; exact noSg_txt (by simp) (by simp)⟩
  rw [decide_eq_false h0]
  and_intros
  by_cases h1 : r = 1
  · rw [decide_eq_true h1]
    and_intros
    refine o_ixS (by omega) a0 a1 ?_
    intro c hc
    have hm := List.mem_of_getElem? hc
    and_intros
    refine o_catS (by show sg.length + 1 ≤ _; omega) ?_
    and_intros
    refine ⟨p, q, rfl, noSg_txt (by simp; omega) fun z => ?_⟩
    exact (List.nodup_append.1 z.2.2.1).2.2 c hm c (by simp) rfl
  rw [decide_eq_false h1]
  and_intros
  by_cases h2 : r = 2
  · rw [decide_eq_true h2]
    and_intros
    show wfx _ (F_law_signs [pool p q, .int ((9 : Nat) : Int)]) _
    with_reducible refine f_use (signs_ok p q 9 (by omega)) ?_
    rintro d outs ⟨l, p, q, rfl, rfl, hl, hn, hc⟩
    and_intros
    exact ⟨p, q, rfl, noSg_txt (by omega) (by omega)⟩
  rw [decide_eq_false h2]
  and_intros
  by_cases h3 : r = 3
  · rw [decide_eq_true h3]
    and_intros
    refine o_listS (S_list sg) (show (S sg).length ≤ _ by rw [S_len]; show _ ≤ 2 ^ 24; omega) ?_
    and_intros
    exact ⟨p, q, rfl, noSg_ty rfl⟩
  rw [decide_eq_false h3]
  and_intros
  by_cases h4 : r = 4
  · rw [decide_eq_true h4]
    and_intros
    refine u_draw (by omega) (by omega) ?_
    intro r p q r0 r1
    have hk : r = 0 ∨ r = 1 ∨ r = 2 ∨ r = 3 ∨ r = 4 ∨ r = 5 := by omega
    rcases hk with rfl | rfl | rfl | rfl | rfl | rfl
    · and_intros
      exact ⟨p, q, rfl, noSg_ty rfl⟩
    · and_intros
      exact ⟨p, q, rfl, noSg_ty rfl⟩
    · and_intros
      exact ⟨p, q, rfl, noSg_ty rfl⟩
    · and_intros
      exact ⟨p, q, rfl, noSg_ty rfl⟩
    · and_intros
      exact ⟨p, q, rfl, noSg_ty rfl⟩
    · and_intros
      exact ⟨p, q, rfl, noSg_ty rfl⟩
  rw [decide_eq_false h4]
  and_intros
  rw [cut_to (by omega)]
  refine ⟨by rw [S_len]; show _ ≤ 2 ^ 24; omega, ?_⟩
  and_intros
  refine u_draw (by omega) (by omega) ?_
  intro r p q r0 r1
  have fin : ∀ z : Nat, z < 32 → NoSg (.str (S (sg.take a ++ [z] ++ sg.drop (a + 1)))) := fun z hz => by
    refine noSg_txt ?_ fun y => ?_
    · rw [List.length_append, List.length_append, List.length_take, List.length_drop]; simp; omega
    · have := y.2.2.2 z (by simp)
      omega
  have hk : r = 0 ∨ r = 1 := by omega
  rcases hk with rfl | rfl
  · and_intros
    rw [lNL]
    refine o_catS (by rw [List.length_take]; simp; omega) ?_
    and_intros
    rw [show (((a : Nat) : Int) + 1) = ((a + 1 : Nat) : Int) by omega, cut_from (by omega)]
    refine ⟨by rw [S_len]; show _ ≤ 2 ^ 24; omega, ?_⟩
    and_intros
    refine o_catS (by rw [List.length_append, List.length_take, List.length_drop]; simp; omega) ?_
    and_intros
    exact ⟨p, q, rfl, fin 10 (by omega)⟩
  · and_intros
    rw [lTB]
    refine o_catS (by rw [List.length_take]; simp; omega) ?_
    and_intros
    rw [show (((a : Nat) : Int) + 1) = ((a + 1 : Nat) : Int) by omega, cut_from (by omega)]
    refine ⟨by rw [S_len]; show _ ≤ 2 ^ 24; omega, ?_⟩
    and_intros
    refine o_catS (by rw [List.length_append, List.length_take, List.length_drop]; simp; omega) ?_
    and_intros
    exact ⟨p, q, rfl, fin 9 (by omega)⟩
def others14 : List Nat := [32, 126, 97, 122, 65, 90, 48, 57, 46, 44, 59, 33, 10, 9]
theorem no_text_ok {sg t : List Nat} (k : Sgn sg) (ht : t.length ≤ 100) (p q : Int) : wf (F_law_no_text [pool p q, .str (S sg), .str (S t)]) fun d outs => ∃ p q, outs = [pool p q] ∧ NotTx sg d := by
  unfold F_law_no_text
  with_reducible refine w_fn ?_
  unfold m_law_no_text
  and_intros
  refine u_draw (by omega) (by omega) ?_
  intro r p q r0 r1
  and_intros
  by_cases h0 : r = 0
  · rw [decide_eq_true h0]
    and_intros
    refine o_listS (S_list t) (show (S t).length ≤ _ by rw [S_len]; show _ ≤ 2 ^ 24; omega) ?_
    and_intros
    exact ⟨p, q, rfl, .inr rfl⟩
  rw [decide_eq_false h0]
  and_intros
  by_cases h1 : r = 1
  · rw [decide_eq_true h1]
    and_intros
    refine u_draw (by omega) (by omega) ?_
    intro r p q r0 r1
    have hk : r = 0 ∨ r = 1 ∨ r = 2 ∨ r = 3 ∨ r = 4 := by omega
    rcases hk with rfl | rfl | rfl | rfl | rfl
    · and_intros
      exact ⟨p, q, rfl, .inr rfl⟩
    · and_intros
      exact ⟨p, q, rfl, .inr rfl⟩
    · and_intros
      exact ⟨p, q, rfl, .inr rfl⟩
    · and_intros
      exact ⟨p, q, rfl, .inr rfl⟩
    · and_intros
      exact ⟨p, q, rfl, .inr rfl⟩
  rw [decide_eq_false h1]
  and_intros
  refine w_filT (l := others14) chD chD (fun c => !decide (c ∈ sg)) ?_
  and_intros
  refine o_listS (l := others14) (by decide +kernel) (by decide +kernel) ?_
  and_intros
  refine ⟨rfl, by decide, ?_, ?_⟩
  · intro c hc
    refine ⟨_, rfl, ?_⟩
    and_intros
    refine ⟨rfl, ?_⟩
    split
    · and_intros
      exact ⟨rfl, rfl⟩
    · rfl
  and_intros
  have ho1 : 1 ≤ (others14.filter fun c => !decide (c ∈ sg)).length := by
    refine List.length_pos_iff.2 fun e => ?_
    have : (10 : Nat) ∈ others14.filter fun c => !decide (c ∈ sg) := by
      rw [List.mem_filter]
      refine ⟨by decide, ?_⟩
      have : (10 : Nat) ∉ sg := fun hm => absurd (sgn_range k 10 hm) (by decide)
      simp [this]
    rw [e] at this
    cases this
  have ho2 : (others14.filter fun c => !decide (c ∈ sg)).length ≤ 14 := List.length_filter_le _ others14
  have hno : ∀ c ∈ others14.filter fun c => !decide (c ∈ sg), c ∉ sg := by
    intro c hc
    have := (List.mem_filter.1 hc).2
    simpa using this
  generalize (others14.filter fun c => !decide (c ∈ sg)) = os at *
  refine u_draw (by omega) (by omega) ?_
  intro a p q a0 a1
  obtain ⟨a, rfl⟩ : ∃ n : Nat, a = n := ⟨a.toNat, by omega⟩
  and_intros
  rw [cut_to (by omega)]
  refine ⟨by rw [S_len]; show _ ≤ 2 ^ 24; omega, ?_⟩
  and_intros
  rw [List.length_map]
  refine u_draw (by omega) (by omega) ?_
  intro r p q r0 r1
  obtain ⟨d, hd1, hd2⟩ := at_in (l := os.map chD) r0 (by rw [List.length_map]; exact r1)
  obtain ⟨c, hc, rfl⟩ := map_at hd2
  have hcn := hno c (List.mem_of_getElem? hc)
  and_intros
  refine o_ixL hd1 ?_
  and_intros
  rw [chD_S]
  refine o_catS (by rw [List.length_take]; simp; omega) ?_
  and_intros
  rw [cut_from (by omega)]
  refine ⟨by rw [S_len]; show _ ≤ 2 ^ 24; omega, ?_⟩
  and_intros
  refine o_catS (by rw [List.length_append, List.length_take, List.length_drop]; simp; omega) ?_
  and_intros
  exact ⟨p, q, rfl, .inl ⟨_, rfl, c, by simp, hcn⟩⟩
theorem gS : Sg cS := by unfold Sg; decide
theorem gT : Sg cT := by unfold Sg; decide
theorem gN : Sg cN := by unfold Sg; decide
theorem gE : Sg [] := by unfold Sg; decide
theorem law_refuses_ok {sg t : List Nat} (k : Sgn sg) (h : ∀ c ∈ t, c ∈ sg) (ht : t.length ≤ 100) (p q : Int) : wf (F_law_refuses [pool p q, .str (S sg), .str (S t)]) fun d outs => d = .bl true ∧ ∃ p q, outs = [pool p q] := by
  unfold F_law_refuses
  with_reducible refine w_fn ?_
  unfold m_law_refuses
  and_intros
  show wfx _ (F_law_no_signs [pool p q, .str (S sg)]) _
  refine f_use (no_signs_ok k p q) ?_
  rintro ds outs ⟨p, q, rfl, hs⟩
  and_intros
  show wfx _ (F_law_no_text [pool p q, .str (S sg), .str (S t)]) _
  refine f_use (no_text_ok k ht p q) ?_
  rintro dt outs ⟨p, q, rfl, htx⟩
  and_intros
  refine w_all (fun x => [some (pool p q), some (.str (S sg)), some (.str (S t)), some ds, some dt, x]) none rfl ?_ ?_
  · intro d x hd
    obtain ⟨j, _, rfl⟩ := List.mem_map.1 hd
    refine ⟨_, rfl, ?_⟩
    and_intros
    refine f_eq (refusal_badS hs) ?_
    and_intros
    try rw [lS]
    refine o_neS gS gS ?_
    rw [decide_eq_true rfl]
    and_intros
    refine f_eq (refusal_badS hs) ?_
    and_intros
    try rw [lS]
    refine o_neS gS gS ?_
    rw [decide_eq_true rfl]
    and_intros
    refine f_eq (refusal_badT k htx) ?_
    and_intros
    try rw [lT]
    refine o_neS gT gT ?_
    rw [decide_eq_true rfl]
    and_intros
    refine f_eq (refusal_good k h) ?_
    and_intros
    try rw [lE]
    refine o_neS gE gE ?_
    rw [decide_eq_true rfl]
    and_intros
    exact ⟨_, rfl⟩
  · intro x
    and_intros
    exact ⟨rfl, p, q, rfl⟩
end Wk31
set_option maxHeartbeats 4000000
namespace Wk31
open PySem L2 Ip
local macro_rules | `(tactic| and_intros) => `(tactic| repeat (first | (with_reducible first | refine w_c ?_ | refine w_nil ?_ | refine w_nx ?_ | refine w_yes ?_ | refine w_pair ?_ | refine w_pairO ?_ | refine w_pairR ?_ | refine w_m2 ?_ | refine w_un ?_ | refine w_cons ?_ | refine w_own ?_ | refine w_io ?_ | refine w_arg ?_ | refine w_argI ?_ | refine w_seqI ?_ | refine w_tup ?_ | refine w_lst ?_ | refine w_and ?_ | refine w_or ?_ | refine w_notV ?_ | refine w_ite ?_ | refine w_test ?_ | refine w_not ?_ | refine w_tand ?_ | refine w_tor ?_ | refine w_chain ?_ | refine w_call0 ?_ | refine w_call1 ?_ | refine w_lstM ?_ | refine w_strM ?_ | refine w_slice ?_ | refine w_oN ?_ | refine w_oS ?_ | refine w_seq ?_ | refine w_if ?_ | refine w_ret ?_ | refine w_drop ?_ | refine w_set ?_ | refine w_setO ?_ | refine w_asg ?_ | refine w_gIx ?_ | refine w_for ?_ | refine w_fn ?_ | refine w_cutL ?_ | refine w_enumS ?_ | refine w_fld1 ?_ | refine w_fldS ?_ | refine w_make ?_ | refine w_meth ?_ | refine w_raise ?_ | refine w_try ?_ | refine w_tryC ?_ | refine w_joinRev ?_ | refine w_while ?_ | refine t_nx ?_ | refine t_ct ?_ | refine t_bk ?_ | refine t_rt ?_ | refine q_nx ?_ | refine q_rt ?_ | refine q_bk ?_ | refine q_ct ?_ | refine e_rt ?_ | refine e_nx ?_ | refine i_t ?_ | refine i_f ?_ | refine i_nt ?_ | refine i_nf ?_ | refine o_add ?_ | refine o_sub ?_ | refine o_lt ?_ | refine o_le ?_ | refine o_gt ?_ | refine o_ge ?_ | refine o_int ?_ | refine o_abs ?_ | refine o_lenL ?_ | refine o_lenT ?_ | refine o_inS ?_ | refine o_notInS ?_ | refine o_listL ?_ | refine o_listT ?_ | refine o_tupL ?_ | refine o_tupT ?_ | refine o_eqI ?_ | refine o_neI ?_ | refine o_isN ?_ | refine o_notN ?_ | refine o_rev ?_ | refine o_max ?_ | refine o_min ?_ | refine o_lenCh ?_ | refine o_notInCh ?_ | refine o_listCh ?_ | refine o_inI ?_ | refine x_bl ?_ | refine x_int ?_ | refine x_str ?_ | refine x_sqL ?_ | refine x_sqT ?_ | refine x_sqS ?_ | refine x_isL ?_ | refine x_out ?_ | refine x_some ?_ | refine x_objL ?_ | refine x_objI ?_ | refine x_objD ?_ | refine x_cls ?_ | refine fl_nx ?_ | refine fl_ct ?_ | refine x_r1 (by with_unfolding_all omega) ?_ | refine x_r2 (by with_unfolding_all omega) ?_ | refine w_var (by with_unfolding_all exact rfl) ?_ | refine x_env (by with_unfolding_all exact rfl) ?_ | refine x_lst (by with_unfolding_all exact rfl) ?_ | refine x_slot (by with_unfolding_all exact of_decide_eq_true rfl) ?_ | refine x_nm (by with_unfolding_all exact of_decide_eq_true rfl) ?_ | refine o_ixL (by with_unfolding_all exact rfl) ?_ | refine o_ixT (by with_unfolding_all exact rfl) ?_ | refine o_isiB (b := true) (by with_unfolding_all exact rfl) ?_ | refine o_isiB (b := false) (by with_unfolding_all exact rfl) ?_ | refine o_lenS' (by first | with_unfolding_all omega | assumption) ?_ | refine x_tp (by with_unfolding_all exact rfl) ?_ | refine x_fld (by with_unfolding_all exact rfl) (by with_unfolding_all exact rfl) ?_ | refine x_meth (by with_unfolding_all exact rfl) ⟨(by with_unfolding_all exact rfl), (by with_unfolding_all exact rfl)⟩ ?_ | refine o_pow (by with_unfolding_all decide) ?_ | refine o_mulR (by with_unfolding_all decide) ?_ | refine o_mulL (by with_unfolding_all decide) ?_ | refine o_mulL (by with_unfolding_all omega) ?_ | refine o_mod (by first | assumption | with_unfolding_all decide) ?_ | refine o_div (by first | assumption | with_unfolding_all decide) (by first | assumption | with_unfolding_all decide) ?_)))
open N31 hiding lt
theorem b197 : (10 : Nat) ^ 59 < 2 ^ 197 := by decide +kernel
theorem p9_40 {b j : Nat} (hb : b ≤ 9) (hj : j ≤ 40) : b ^ j < 2 ^ 162 := by
  have h1 := pow9 (n := j) hb
  have h2 : (2 : Nat) ^ (4 * j + 1) ≤ 2 ^ 161 := Nat.pow_le_pow_right (by omega) (by omega)
  have h3 : (2 : Nat) ^ 161 < 2 ^ 162 := by decide +kernel
  omega
theorem law_number_ok {b : Nat} (b1 : 1 ≤ b) (b9 : b ≤ 9) (p q : Int) : wf (F_law_number [pool p q, .int b]) fun d outs => ∃ (n : Nat) (p q : Int), d = .int n ∧ outs = [pool p q] ∧ n < 2 ^ 197 := by
  unfold F_law_number
  with_reducible refine w_fn ?_
  unfold m_law_number
  and_intros
  refine u_draw (by omega) (by omega) ?_
  intro rk p q r0 r1
  and_intros
  by_cases h0 : rk = 0
  · rw [decide_eq_true h0]
    and_intros
    refine u_draw (many := 10 ^ Int.toNat 59) (by decide +kernel) (by decide +kernel) ?_
    intro r p q r0 r1
    obtain ⟨r, rfl⟩ : ∃ n : Nat, r = n := ⟨r.toNat, by omega⟩
    and_intros
    refine ⟨r, p, q, rfl, rfl, ?_⟩
    have h := b197
    have r1 : (r : Int) < ((10 ^ 59 : Nat) : Int) := by
      have e : ((10 ^ 59 : Nat) : Int) = (10 : Int) ^ Int.toNat 59 := by decide +kernel
      rw [e]; exact r1
    omega
  rw [decide_eq_false h0]
  and_intros
  by_cases h1 : rk = 1
  · rw [decide_eq_true h1]
    and_intros
    refine u_draw (by omega) (by omega) ?_
    intro r p q r0 r1
    obtain ⟨r, rfl⟩ : ∃ n : Nat, r = n := ⟨r.toNat, by omega⟩
    and_intros
    refine ⟨r, p, q, rfl, rfl, ?_⟩
    have : (1000 : Nat) < 2 ^ 197 := by decide +kernel
    omega
  rw [decide_eq_false h1]
  and_intros
  refine u_draw (by omega) (by omega) ?_
  intro r p q r0 r1
  obtain ⟨n, rfl⟩ : ∃ n : Nat, r = n := ⟨r.toNat, by omega⟩
  and_intros
  refine w_loop (fun i ρ => ∃ x, ρ = [some (pool p q), some (.int b), some (.int rk), some (.int (b ^ i : Nat)), x]) ⟨none, rfl⟩ ?_ ?_
  · rintro i d ρ hd ⟨x, rfl⟩
    refine ⟨_, rfl, ?_⟩
    and_intros
    with_reducible refine o_mulR (by omega) ?_
    and_intros
    rw [show ((b ^ (i + 1) : Nat) : Int) = ((b ^ i : Nat) : Int) * (b : Int) by rw [Nat.pow_succ]; push_cast; rfl]
    exact ⟨_, rfl⟩
  · rintro ρ ⟨x, rfl⟩
    rw [List.length_map, List.length_range]
    show wsq _ _ _ Fl.nx [_, _, _, some (D.int ((b ^ n : Nat) : Int)), _]
    have hp : 1 ≤ b ^ n := Nat.pow_pos b1
    have hq := p9_40 (j := n) b9 (by omega)
    generalize b ^ n = P at hp hq ⊢
    and_intros
    refine u_draw (by split <;> omega) (by split <;> omega) ?_
    intro r p q r0 r1
    obtain ⟨r, rfl⟩ : ∃ n : Nat, r = n := ⟨r.toNat, by omega⟩
    and_intros
    have hr : r < P := by
      split at r1 <;> omega
    refine ⟨P - 1 - r, p, q, ?_, rfl, ?_⟩
    · rw [show (((P - 1 - r : Nat)) : Int) = (P : Int) - 1 - r by omega]
    · have : (2 : Nat) ^ 162 < 2 ^ 197 := by decide +kernel
      omega
theorem refuses_number_ok {sg : List Nat} (k : Sgn sg) {n : Nat} (hl : (figs (sg.length + 1) n).length ≤ 100000) (p q : Int) : wf (F_law_refuses_number [pool p q, .str (S sg), .int n]) fun d outs => d = .bl true ∧ ∃ p q, outs = [pool p q] := by
  unfold F_law_refuses_number
  with_reducible refine w_fn ?_
  unfold m_law_refuses_number
  and_intros
  show wfx _ (F_law_no_signs [pool p q, .str (S sg)]) _
  refine f_use (no_signs_ok k p q) ?_
  rintro ds outs ⟨p, q, rfl, hs⟩
  and_intros
  refine o_some (d := .int (-1)) rfl ?_
  and_intros
  refine o_some (d := .int (-1)) rfl ?_
  and_intros
  refine u_draw (by omega) (by omega) ?_
  intro r p q r0 r1
  have key : ∀ z, atI [D.int (-1 - (n : Int)), .int (-1), .non, .bl true, .bl false, .str "1", .lst [], .tup [.int 1]] r = some z → NoNb z := by
    intro z hz
    have hk : r = 0 ∨ r = 1 ∨ r = 2 ∨ r = 3 ∨ r = 4 ∨ r = 5 ∨ r = 6 ∨ r = 7 := by omega
    have ty : ∀ d, (isiD "int" d = some (.bl false) ∨ (isiD "int" d = some (.bl true) ∧ isiD "bool" d = some (.bl true))) → NoNb d := by
      intro d hd
      refine .inr ?_
      unfold F_is_integer
      with_reducible refine w_fn ?_
      unfold m_is_integer
      and_intros
      rcases hd with hd | ⟨hd, hd2⟩
      · refine o_isiB (b := false) hd ?_
        and_intros
        exact ⟨rfl, rfl⟩
      · refine o_isiB (b := true) hd ?_
        and_intros
        refine o_isiB (b := true) hd2 ?_
        and_intros
        exact ⟨rfl, rfl⟩
    rcases hk with rfl | rfl | rfl | rfl | rfl | rfl | rfl | rfl
    · cases (Option.some.inj hz : D.int (-1 - (n : Int)) = z)
      exact .inl ⟨-1 - (n : Int), rfl, by omega⟩
    · cases (Option.some.inj hz : D.int (-1) = z)
      exact .inl ⟨-1, rfl, by omega⟩
    · cases (Option.some.inj hz : D.non = z)
      exact ty _ (.inl rfl)
    · cases (Option.some.inj hz : D.bl true = z)
      exact ty _ (.inr ⟨rfl, rfl⟩)
    · cases (Option.some.inj hz : D.bl false = z)
      exact ty _ (.inr ⟨rfl, rfl⟩)
    · cases (Option.some.inj hz : D.str "1" = z)
      exact ty _ (.inl rfl)
    · cases (Option.some.inj hz : D.lst [] = z)
      exact ty _ (.inl rfl)
    · cases (Option.some.inj hz : D.tup [.int 1] = z)
      exact ty _ (.inl rfl)
  obtain ⟨z, hz, _⟩ := at_in (l := [D.int (-1 - (n : Int)), .int (-1), .non, .bl true, .bl false, .str "1", .lst [], .tup [.int 1]]) r0 (by simp; omega)
  have hnb := key z hz
  and_intros
  refine o_ixT hz ?_
  and_intros
  refine f_eq (nrefusal_badS hs) ?_
  and_intros
  rw [lS]
  refine o_neS gS gS ?_
  rw [decide_eq_true rfl]
  and_intros
  refine f_eq (nrefusal_badS hs) ?_
  and_intros
  refine o_neS gS gS ?_
  rw [decide_eq_true rfl]
  and_intros
  refine f_eq (nrefusal_badN k hnb) ?_
  and_intros
  rw [lN]
  refine o_eqS gN gN ?_
  rw [decide_eq_true rfl]
  and_intros
  refine f_eq (nrefusal_good k hl) ?_
  and_intros
  rw [lE]
  refine o_eqS gE gE ?_
  rw [decide_eq_true rfl]
  and_intros
  exact ⟨rfl, p, q, rfl⟩
theorem tx_sg {sg : List Nat} (k : Sgn sg) {n : Nat} (h : Good sg n) : Sg (tx sg n) := fun c hc => signs_sg (k.al c (tx_mem k.s1 h c hc))
theorem tx_len (sg : List Nat) (n : Nat) : (tx sg n).length = (figs (sg.length + 1) n).length := by unfold tx; simp
def Last (sg : List Nat) (n : Nat) (d : D) : Prop := d = .non ∨ ∃ m, m < n ∧ Good sg m ∧ (figs (sg.length + 1) m).length ≤ 200 ∧ d = .str (S (tx sg m))
theorem numbers_hold_ok {sg : List Nat} (k : Sgn sg) (p q : Int) : wf (F_law_numbers_hold [pool p q, .str (S sg)]) fun d outs => d = .bl true ∧ ∃ p q, outs = [pool p q] := by
  have s1 := k.s1
  have s8 := k.s8
  unfold F_law_numbers_hold
  with_reducible refine w_fn ?_
  unfold m_law_numbers_hold
  and_intros
  rw [show (((sg.length : Nat) : Int) + 1) = ((sg.length + 1 : Nat) : Int) by omega]
  show wfx _ (F_law_number [pool p q, .int ((sg.length + 1 : Nat) : Int)]) _
  refine f_use (law_number_ok (by omega) (by omega) p q) ?_
  rintro d outs ⟨n, p, q, rfl, rfl, hn⟩
  have big : (2 : Nat) ^ 197 + 13 < 2 ^ 200 := by decide +kernel
  have fl : ∀ j, j ≤ 13 → (figs (sg.length + 1) (n + j)).length ≤ 200 := fun j hj => figs_len (by omega) 200 _ (by omega)
  and_intros
  refine w_loop (fun i ρ => ∃ last x4 x5 x6, ρ = [some (pool p q), some (.str (S sg)), some (.int n), some last, x4, x5, x6] ∧ Last sg (n + i) last) ⟨.non, none, none, none, rfl, .inl rfl⟩ ?_ ?_
  · rintro i d ρ hd ⟨last, x4, x5, x6, rfl, hlast⟩
    obtain ⟨j, hj, rfl⟩ := map_at hd
    obtain ⟨hi, e⟩ := List.getElem?_eq_some_iff.1 hj
    rw [List.getElem_range] at e
    subst e
    have hi : i < 13 := by simpa using hi
    have hf := fl i (by omega)
    refine ⟨_, rfl, ?_⟩
    and_intros
    rw [show ((n : Int) + (i : Nat)) = ((n + i : Nat) : Int) by omega]
    refine f_eq (text_of_ok k (by omega)) ?_
    and_intros
    rw [show ((n : Int) + (i : Nat)) = ((n + i : Nat) : Int) by omega]
    refine f_eq (law_text_ok k hf) ?_
    and_intros
    by_cases hz : 0 ∈ figs (sg.length + 1) (n + i)
    · rw [txD_no hz]
      refine i_T rfl ?_
      and_intros
      refine i_F rfl ?_
      and_intros
      refine ⟨_, _, _, _, rfl, ?_⟩
      rcases hlast with rfl | ⟨m, h1, h2, h3, rfl⟩
      · exact .inl rfl
      · exact .inr ⟨m, by omega, h2, h3, rfl⟩
    · have hg : Good sg (n + i) := hz
      rw [txD_yes hg]
      refine i_F rfl ?_
      and_intros
      refine f_eq (exact_str (k := 2) (tx_sg k hg)) ?_
      and_intros
      refine f_eq (worth_of_ok k (tx_mem s1 hg)) ?_
      rw [wr_tx k.nd s1 hg]
      and_intros
      rw [show ((n : Int) + (i : Nat)) = ((n + i : Nat) : Int) by omega]
      refine f_eq (exact_int (k := 2)) ?_
      and_intros
      rcases hlast with rfl | ⟨m, h1, h2, h3, rfl⟩
      · refine i_F rfl ?_
        and_intros
        exact ⟨_, _, _, _, rfl, .inr ⟨n + i, by omega, hg, hf, rfl⟩⟩
      · refine i_T rfl ?_
        and_intros
        refine f_eq (law_ahead_ok k (tx_mem s1 h2) (tx_mem s1 hg) (by rw [tx_len]; omega) (by rw [tx_len]; omega) (by rw [wr_tx k.nd s1 h2, wr_tx k.nd s1 hg]; exact h1)) ?_
        and_intros
        exact ⟨_, _, _, _, rfl, .inr ⟨n + i, by omega, hg, hf, rfl⟩⟩
  · rintro ρ ⟨last, x4, x5, x6, rfl, _⟩
    and_intros
    show wfx _ (F_law_refuses_number [pool p q, .str (S sg), .int n]) _
    have hf : (figs (sg.length + 1) n).length ≤ 200 := fl 0 (by omega)
    refine f_use (refuses_number_ok k (by omega) p q) ?_
    rintro d outs ⟨rfl, p, q, rfl⟩
    and_intros
    exact ⟨rfl, p, q, rfl⟩
end Wk31
set_option maxHeartbeats 4000000
namespace Wk31
open PySem L2 Ip
local macro_rules | `(tactic| and_intros) => `(tactic| repeat (first | (with_reducible first | refine w_c ?_ | refine w_nil ?_ | refine w_nx ?_ | refine w_yes ?_ | refine w_pair ?_ | refine w_pairO ?_ | refine w_pairR ?_ | refine w_m2 ?_ | refine w_un ?_ | refine w_cons ?_ | refine w_own ?_ | refine w_io ?_ | refine w_arg ?_ | refine w_argI ?_ | refine w_seqI ?_ | refine w_tup ?_ | refine w_lst ?_ | refine w_and ?_ | refine w_or ?_ | refine w_notV ?_ | refine w_ite ?_ | refine w_test ?_ | refine w_not ?_ | refine w_tand ?_ | refine w_tor ?_ | refine w_chain ?_ | refine w_call0 ?_ | refine w_call1 ?_ | refine w_lstM ?_ | refine w_strM ?_ | refine w_slice ?_ | refine w_oN ?_ | refine w_oS ?_ | refine w_seq ?_ | refine w_if ?_ | refine w_ret ?_ | refine w_drop ?_ | refine w_set ?_ | refine w_setO ?_ | refine w_asg ?_ | refine w_gIx ?_ | refine w_for ?_ | refine w_fn ?_ | refine w_cutL ?_ | refine w_enumS ?_ | refine w_fld1 ?_ | refine w_fldS ?_ | refine w_make ?_ | refine w_meth ?_ | refine w_raise ?_ | refine w_try ?_ | refine w_tryC ?_ | refine w_joinRev ?_ | refine w_while ?_ | refine t_nx ?_ | refine t_ct ?_ | refine t_bk ?_ | refine t_rt ?_ | refine q_nx ?_ | refine q_rt ?_ | refine q_bk ?_ | refine q_ct ?_ | refine e_rt ?_ | refine e_nx ?_ | refine i_t ?_ | refine i_f ?_ | refine i_nt ?_ | refine i_nf ?_ | refine o_add ?_ | refine o_sub ?_ | refine o_lt ?_ | refine o_le ?_ | refine o_gt ?_ | refine o_ge ?_ | refine o_int ?_ | refine o_abs ?_ | refine o_lenL ?_ | refine o_lenT ?_ | refine o_inS ?_ | refine o_notInS ?_ | refine o_listL ?_ | refine o_listT ?_ | refine o_tupL ?_ | refine o_tupT ?_ | refine o_eqI ?_ | refine o_neI ?_ | refine o_isN ?_ | refine o_notN ?_ | refine o_rev ?_ | refine o_max ?_ | refine o_min ?_ | refine o_lenCh ?_ | refine o_notInCh ?_ | refine o_listCh ?_ | refine o_inI ?_ | refine x_bl ?_ | refine x_int ?_ | refine x_str ?_ | refine x_sqL ?_ | refine x_sqT ?_ | refine x_sqS ?_ | refine x_isL ?_ | refine x_out ?_ | refine x_some ?_ | refine x_objL ?_ | refine x_objI ?_ | refine x_objD ?_ | refine x_cls ?_ | refine fl_nx ?_ | refine fl_ct ?_ | refine x_r1 (by with_unfolding_all omega) ?_ | refine x_r2 (by with_unfolding_all omega) ?_ | refine w_var (by with_unfolding_all exact rfl) ?_ | refine x_env (by with_unfolding_all exact rfl) ?_ | refine x_lst (by with_unfolding_all exact rfl) ?_ | refine x_slot (by with_unfolding_all exact of_decide_eq_true rfl) ?_ | refine x_nm (by with_unfolding_all exact of_decide_eq_true rfl) ?_ | refine o_ixL (by with_unfolding_all exact rfl) ?_ | refine o_ixT (by with_unfolding_all exact rfl) ?_ | refine o_isiB (b := true) (by with_unfolding_all exact rfl) ?_ | refine o_isiB (b := false) (by with_unfolding_all exact rfl) ?_ | refine o_lenS' (by first | with_unfolding_all omega | assumption) ?_ | refine x_tp (by with_unfolding_all exact rfl) ?_ | refine x_fld (by with_unfolding_all exact rfl) (by with_unfolding_all exact rfl) ?_ | refine x_meth (by with_unfolding_all exact rfl) ⟨(by with_unfolding_all exact rfl), (by with_unfolding_all exact rfl)⟩ ?_ | refine o_pow (by with_unfolding_all decide) ?_ | refine o_mulR (by with_unfolding_all decide) ?_ | refine o_mulL (by with_unfolding_all decide) ?_ | refine o_mulL (by with_unfolding_all omega) ?_ | refine o_mod (by first | assumption | with_unfolding_all decide) ?_ | refine o_div (by first | assumption | with_unfolding_all decide) (by first | assumption | with_unfolding_all decide) ?_)))
open N31 hiding lt
theorem exact_lst {k : Nat} {ds : List D} (hl : ds.length < 2 ^ 20) (h : ∀ d ∈ ds, wf (F_law_exact k [d, d]) fun d outs => d = .bl true ∧ outs = []) : wf (F_law_exact (k + 1) [.lst ds, .lst ds]) fun d outs => d = .bl true ∧ outs = [] := by
  show wf (fnSem 4 [] (m_law_exact (F_law_exact k)) _) _
  with_reducible refine w_fn ?_
  unfold m_law_exact
  and_intros
  rw [decide_eq_true rfl]
  and_intros
  refine w_loop (fun i ρ => ∃ x, ρ = [some (.lst ds), some (.lst ds), none, x]) ⟨none, rfl⟩ ?_ ?_
  · rintro i d ρ hd ⟨x, rfl⟩
    obtain ⟨j, hj, rfl⟩ := map_at hd
    have hj2 : j < ds.length := by have := List.mem_of_getElem? hj; simpa using this
    have he := List.getElem?_eq_getElem hj2
    refine ⟨_, rfl, ?_⟩
    and_intros
    refine o_ixN he ?_
    and_intros
    refine o_ixN he ?_
    and_intros
    refine f_eq (h _ (List.getElem_mem hj2)) ?_
    and_intros
    exact ⟨_, rfl⟩
  · rintro ρ ⟨x, rfl⟩
    and_intros
    exact ⟨rfl, rfl⟩
theorem u_signs {EF : Ex → List D → Prop} {p q r : Int} {Q : D → List D → Prop} (h0 : 0 ≤ r) (h2 : r < 8) (w : ∀ l p' q', 1 ≤ l.length → l.length ≤ 8 → l.Nodup → (∀ c ∈ l, c ∈ signs94) → Q (.str (S l)) [pool p' q']) : wfx EF (F_law_signs ([.non, .int (1 + r)].set 0 (pool p q))) Q := by
  obtain ⟨n, rfl⟩ : ∃ n : Nat, r = n := ⟨r.toNat, by omega⟩
  show wfx EF (F_law_signs [pool p q, .int ((1 + n : Nat) : Int)]) Q
  with_reducible refine f_use (signs_ok p q (1 + n) (by omega)) ?_
  rintro d outs ⟨l, p', q', rfl, rfl, hl, hn, hc⟩
  exact w l p' q' (by omega) (by omega) hn hc

theorem figs_wr {sg t : List Nat} (s1 : 1 ≤ sg.length) (h : ∀ c ∈ t, c ∈ sg) : (figs (sg.length + 1) (wr sg t)).length = t.length := by
  unfold wr
  rw [figs_va (by omega) _ (dg_figR h), List.length_reverse, dg_len]
theorem txD_wr {sg t : List Nat} (s1 : 1 ≤ sg.length) (h : ∀ c ∈ t, c ∈ sg) : txD sg (wr sg t) = .str (S t) := by rw [txD_yes (good_wr s1 h), tx_wr s1 h]
theorem idx_at {sg : List Nat} (hn : sg.Nodup) {i c : Nat} (h : sg[i]? = some c) : sg.idxOf c = i := at_once hn (at_idx (List.mem_of_getElem? h)) h
theorem t_sg {sg t : List Nat} (k : Sgn sg) (h : ∀ c ∈ t, c ∈ sg) : Sg t := fun c hc => signs_sg (k.al c (h c hc))
theorem long_ok {sg : List Nat} (k : Sgn sg) (p q : Int) : wf (F_law_long_holds [pool p q, .str (S sg)]) fun d outs => d = .bl true ∧ ∃ p q, outs = [pool p q] := by
  have s1 := k.s1
  have s8 := k.s8
  unfold F_law_long_holds
  with_reducible refine w_fn ?_
  unfold m_law_long_holds
  and_intros
  refine u_draw (by omega) (by omega) ?_
  intro i p q i0 i1
  obtain ⟨i, rfl⟩ : ∃ n : Nat, i = n := ⟨i.toNat, by omega⟩
  and_intros
  refine u_draw (by omega) (by omega) ?_
  intro j p q j0 j1
  obtain ⟨j, rfl⟩ : ∃ n : Nat, j = n := ⟨j.toNat, by omega⟩
  and_intros
  refine u_draw (by omega) (by omega) ?_
  intro r p q r0 r1
  obtain ⟨r, rfl⟩ : ∃ n : Nat, r = n := ⟨r.toNat, by omega⟩
  and_intros
  rw [show ((1900 : Int) + (r : Nat)) = ((1900 + r : Nat) : Int) by omega]
  have hn : 1900 + r ≤ 2200 := by omega
  generalize 1900 + r = n at hn ⊢
  refine o_ixS (by omega) i0 i1 ?_
  intro c hc
  have hc : sg[i]? = some c := hc
  have hcm := List.mem_of_getElem? hc
  and_intros
  refine o_mulS (l := [c]) (by simp) (by omega) ?_
  rw [List.flatten_replicate_singleton]
  and_intros
  refine o_ixS (by omega) j0 j1 ?_
  intro e he
  have he : sg[j]? = some e := he
  have hem := List.mem_of_getElem? he
  and_intros
  refine o_catS (by rw [List.length_replicate]; simp; omega) ?_
  and_intros
  have ht : ∀ z ∈ List.replicate n c ++ [e], z ∈ sg := by
    intro z hz
    rcases List.mem_append.1 hz with hz | hz
    · rw [List.eq_of_mem_replicate hz]; exact hcm
    · rw [List.mem_singleton.1 hz]; exact hem
  have hl : (List.replicate n c ++ [e]).length = n + 1 := by simp
  have hw : wr sg (List.replicate n c ++ [e]) = (i + 1) * geo (sg.length + 1) n * (sg.length + 1) + j + 1 := by rw [wr_snoc, wr_rep, idx_at k.nd hc, idx_at k.nd he]; rfl
  have hp : (sg.length + 1) ^ n = geo (sg.length + 1) n * sg.length + 1 := (geo_pow sg.length n).symm
  generalize hT : List.replicate n c ++ [e] = T at ht hl hw ⊢
  rw [show (((sg.length : Nat) : Int) + 1) = ((sg.length + 1 : Nat) : Int) by omega]
  with_reducible refine f_eq (power_ok (by omega) (by omega)) ?_
  rw [hp]
  generalize hG : geo (sg.length + 1) n = g at hp hw ⊢
  and_intros
  with_reducible refine o_div (by omega) (log_small (by omega) (by omega)) ?_
  rw [show ((((g * sg.length + 1 : Nat) : Int) - 1) / (((sg.length + 1 : Nat) : Int) - 1)) = (g : Int) by
    rw [show (((g * sg.length + 1 : Nat) : Int) - 1) = (g : Int) * (sg.length : Int) by push_cast; omega, show (((sg.length + 1 : Nat) : Int) - 1) = (sg.length : Int) by omega]
    exact Int.mul_ediv_cancel _ (by omega)]
  and_intros
  with_reducible refine o_mulR (by omega) ?_
  and_intros
  with_reducible refine f_eq (worth_of_ok k ht) ?_
  and_intros
  rw [show (((i : Nat) : Int) + 1) * (g : Int) * ((sg.length + 1 : Nat) : Int) + ((j : Nat) : Int) + 1 = ((wr sg T : Nat) : Int) by rw [hw]; push_cast; rfl]
  with_reducible refine f_eq (exact_int (k := 2)) ?_
  and_intros
  with_reducible refine f_eq (width_of_ok k ht) ?_
  and_intros
  with_reducible refine o_mulR (by omega) ?_
  and_intros
  rw [hl, Nat.pow_succ, hp, show ((g * sg.length + 1 : Nat) : Int) * ((sg.length + 1 : Nat) : Int) = (((g * sg.length + 1) * (sg.length + 1) : Nat) : Int) by push_cast; rfl]
  with_reducible refine f_eq (exact_int (k := 2)) ?_
  and_intros
  with_reducible refine f_eq (text_of_ok k (by rw [figs_wr s1 ht, hl]; omega)) ?_
  rw [txD_wr s1 ht]
  and_intros
  with_reducible refine f_eq (exact_str (k := 2) (t_sg k ht)) ?_
  and_intros
  exact ⟨rfl, p, q, rfl⟩
end Wk31
set_option maxHeartbeats 4000000
namespace Wk31
open PySem L2 Ip
local macro_rules | `(tactic| and_intros) => `(tactic| repeat (first | (with_reducible first | refine w_c ?_ | refine w_nil ?_ | refine w_nx ?_ | refine w_yes ?_ | refine w_pair ?_ | refine w_pairO ?_ | refine w_pairR ?_ | refine w_m2 ?_ | refine w_un ?_ | refine w_cons ?_ | refine w_own ?_ | refine w_io ?_ | refine w_arg ?_ | refine w_argI ?_ | refine w_seqI ?_ | refine w_tup ?_ | refine w_lst ?_ | refine w_and ?_ | refine w_or ?_ | refine w_notV ?_ | refine w_ite ?_ | refine w_test ?_ | refine w_not ?_ | refine w_tand ?_ | refine w_tor ?_ | refine w_chain ?_ | refine w_call0 ?_ | refine w_call1 ?_ | refine w_lstM ?_ | refine w_strM ?_ | refine w_slice ?_ | refine w_oN ?_ | refine w_oS ?_ | refine w_seq ?_ | refine w_if ?_ | refine w_ret ?_ | refine w_drop ?_ | refine w_set ?_ | refine w_setO ?_ | refine w_asg ?_ | refine w_gIx ?_ | refine w_for ?_ | refine w_fn ?_ | refine w_cutL ?_ | refine w_enumS ?_ | refine w_fld1 ?_ | refine w_fldS ?_ | refine w_make ?_ | refine w_meth ?_ | refine w_raise ?_ | refine w_try ?_ | refine w_tryC ?_ | refine w_joinRev ?_ | refine w_while ?_ | refine t_nx ?_ | refine t_ct ?_ | refine t_bk ?_ | refine t_rt ?_ | refine q_nx ?_ | refine q_rt ?_ | refine q_bk ?_ | refine q_ct ?_ | refine e_rt ?_ | refine e_nx ?_ | refine i_t ?_ | refine i_f ?_ | refine i_nt ?_ | refine i_nf ?_ | refine o_add ?_ | refine o_sub ?_ | refine o_lt ?_ | refine o_le ?_ | refine o_gt ?_ | refine o_ge ?_ | refine o_int ?_ | refine o_abs ?_ | refine o_lenL ?_ | refine o_lenT ?_ | refine o_inS ?_ | refine o_notInS ?_ | refine o_listL ?_ | refine o_listT ?_ | refine o_tupL ?_ | refine o_tupT ?_ | refine o_eqI ?_ | refine o_neI ?_ | refine o_isN ?_ | refine o_notN ?_ | refine o_rev ?_ | refine o_max ?_ | refine o_min ?_ | refine o_lenCh ?_ | refine o_notInCh ?_ | refine o_listCh ?_ | refine o_inI ?_ | refine x_bl ?_ | refine x_int ?_ | refine x_str ?_ | refine x_sqL ?_ | refine x_sqT ?_ | refine x_sqS ?_ | refine x_isL ?_ | refine x_out ?_ | refine x_some ?_ | refine x_objL ?_ | refine x_objI ?_ | refine x_objD ?_ | refine x_cls ?_ | refine fl_nx ?_ | refine fl_ct ?_ | refine x_r1 (by with_unfolding_all omega) ?_ | refine x_r2 (by with_unfolding_all omega) ?_ | refine w_var (by with_unfolding_all exact rfl) ?_ | refine x_env (by with_unfolding_all exact rfl) ?_ | refine x_lst (by with_unfolding_all exact rfl) ?_ | refine x_slot (by with_unfolding_all exact of_decide_eq_true rfl) ?_ | refine x_nm (by with_unfolding_all exact of_decide_eq_true rfl) ?_ | refine o_ixL (by with_unfolding_all exact rfl) ?_ | refine o_ixT (by with_unfolding_all exact rfl) ?_ | refine o_isiB (b := true) (by with_unfolding_all exact rfl) ?_ | refine o_isiB (b := false) (by with_unfolding_all exact rfl) ?_ | refine o_lenS' (by first | with_unfolding_all omega | assumption) ?_ | refine x_tp (by with_unfolding_all exact rfl) ?_ | refine x_fld (by with_unfolding_all exact rfl) (by with_unfolding_all exact rfl) ?_ | refine x_meth (by with_unfolding_all exact rfl) ⟨(by with_unfolding_all exact rfl), (by with_unfolding_all exact rfl)⟩ ?_ | refine o_pow (by with_unfolding_all decide) ?_ | refine o_mulR (by with_unfolding_all decide) ?_ | refine o_mulL (by with_unfolding_all decide) ?_ | refine o_mulL (by with_unfolding_all omega) ?_ | refine o_mod (by first | assumption | with_unfolding_all decide) ?_ | refine o_div (by first | assumption | with_unfolding_all decide) (by first | assumption | with_unfolding_all decide) ?_)))
open N31 hiding lt
def strD (l : List Nat) : D := .str (S l)

def wD (sg t : List Nat) : D := .int (wr sg t : Nat)
abbrev tailL : Ip.Env → Ip.R Fl := (mSeq (mFor (mArgI asR1 (mCons (mArg oLen (mOwn 4 mNil)) mNil)) (gNm 12) (mIfS (mTest (m2 neD (mPair (m2 eqD (mPair (m2 ixD (mPairO 5 (mVar 12))) (mVar 9))) (m2 eqD (mPair (m2 ixD (mPairO 4 (mVar 12))) (mVar 8)))))) (mRet (mC (.bl false))) mNx)) (mSeq (mDrop (mLstM 4 stAppend (mCons (mVar 8) mNil))) (mSeq (mDrop (mLstM 5 stAppend (mCons (mVar 9) mNil))) (mSeq (mIfS (mNot (mTest (mCall1 F_law_refuses 0 7 (mIo (mCons (mVar 2) (mCons (mVar 8) mNil)))))) (mRet (mC (.bl false))) mNx) (mIfS (mAnd (mTest (m2 ltD (mPair (mVar 6) (mC (.int 40))))) (mNot (mTest (mCall1 F_law_numbers_hold 0 7 (mIo (mCons (mVar 2) mNil)))))) (mRet (mC (.bl false))) mNx)))))
abbrev restL : Ip.Env → Ip.R Fl := (mSeq (mSet 3 (mC (.str ""))) (mSeq (mSetO 4 (mLst (mCons (mC (.str "")) mNil))) (mSeq (mSetO 5 (mLst (mCons (mCall0 F_worth_of (mCons (mVar 2) (mCons (mC (.str "")) mNil))) mNil))) (mSeq (mIfS (mNot (mTest (mCall0 (F_law_exact 3) (mCons (mLst (mCons (m2 ixD (mPairO 5 (mC (.int 0)))) (mCons (mCall0 F_width_of (mCons (mVar 2) (mCons (mC (.str "")) mNil))) mNil))) (mCons (mLst (mCons (mC (.int 0)) (mCons (mC (.int 1)) mNil))) mNil))))) (mRet (mC (.bl false))) mNx) (mSeq (mFor (mArgI asR2 (mCons (mC (.int 1)) (mCons (mArg oMax (mCons (mC (.int 4)) (mCons (mArg oMin (mCons (mArg oLen (mCons (mVar 0) mNil)) (mCons (mC (.int 63)) mNil))) mNil))) mNil))) (gNm 6) (mSeq (mSetO 7 (mCall0 F_law_pool (mCons (mVar 0) (mCons (mVar 6) mNil)))) (mSeq (mSet 8 (mCall1 F_law_string 0 7 (mIo (mCons (mVar 2) (mCons (mC (.int 24)) mNil))))) (mSeq (mSet 9 (mCall0 F_worth_of (mCons (mVar 2) (mCons (mVar 8) mNil)))) (mSeq (mSet 10 (mCall0 F_width_of (mCons (mVar 2) (mCons (mVar 8) mNil)))) (mSeq (mIfS (mNot (mTest (mCall0 (F_law_exact 3) (mCons (mLst (mCons (mVar 9) (mCons (mVar 10) mNil))) (mCons (mLst (mCons (mCall0 F_law_worth (mCons (mVar 2) (mCons (mVar 8) mNil))) (mCons (mCall0 F_law_power (mCons (m2 addD (mPair (mArg oLen (mCons (mVar 2) mNil)) (mC (.int 1)))) (mCons (mArg oLen (mCons (mVar 8) mNil)) mNil))) mNil))) mNil))))) (mRet (mC (.bl false))) mNx) (mSeq (mIfS (mNot (mTest (mCall0 (F_law_exact 3) (mCons (mCall0 F_text_of (mCons (mVar 2) (mCons (mVar 9) mNil))) (mCons (mVar 8) mNil))))) (mRet (mC (.bl false))) mNx) (mSeq (mIfS (mTest (m2 leD (mPair (m2 addD (mPair (mArg oLen (mCons (mVar 3) mNil)) (mArg oLen (mCons (mVar 8) mNil)))) (mC (.int 120))))) (mSeq (mSet 11 (m2 addD (mPair (m2 mulD (mPair (mCall0 F_worth_of (mCons (mVar 2) (mCons (mVar 3) mNil))) (mVar 10))) (mVar 9)))) (mSeq (mIfS (mNot (mTest (mCall0 (F_law_exact 3) (mCons (mCall0 F_worth_of (mCons (mVar 2) (mCons (m2 addD (mPair (mVar 3) (mVar 8))) mNil))) (mCons (mVar 11) mNil))))) (mRet (mC (.bl false))) mNx) (mSeq (mIfS (mNot (mTest (mCall0 (F_law_exact 3) (mCons (mCall0 F_width_of (mCons (mVar 2) (mCons (m2 addD (mPair (mVar 3) (mVar 8))) mNil))) (mCons (m2 mulD (mPair (mCall0 F_width_of (mCons (mVar 2) (mCons (mVar 3) mNil))) (mVar 10))) mNil))))) (mRet (mC (.bl false))) mNx) (mSet 3 (m2 addD (mPair (mVar 3) (mVar 8))))))) mNx) (mSeq (mFor (mArgI asR1 (mCons (mArg oLen (mOwn 4 mNil)) mNil)) (gNm 12) (mIfS (mTest (m2 neD (mPair (m2 eqD (mPair (m2 ixD (mPairO 5 (mVar 12))) (mVar 9))) (m2 eqD (mPair (m2 ixD (mPairO 4 (mVar 12))) (mVar 8)))))) (mRet (mC (.bl false))) mNx)) (mSeq (mDrop (mLstM 4 stAppend (mCons (mVar 8) mNil))) (mSeq (mDrop (mLstM 5 stAppend (mCons (mVar 9) mNil))) (mSeq (mIfS (mNot (mTest (mCall1 F_law_refuses 0 7 (mIo (mCons (mVar 2) (mCons (mVar 8) mNil)))))) (mRet (mC (.bl false))) mNx) (mIfS (mAnd (mTest (m2 ltD (mPair (mVar 6) (mC (.int 40))))) (mNot (mTest (mCall1 F_law_numbers_hold 0 7 (mIo (mCons (mVar 2) mNil)))))) (mRet (mC (.bl false))) mNx))))))))))))) (mSeq (mSet 9 (mCall0 F_worth_of (mCons (mVar 2) (mCons (mVar 3) mNil)))) (mRet (mAndV (mCall0 (F_law_exact 3) (mCons (mVar 9) (mCons (mCall0 F_law_worth (mCons (mVar 2) (mCons (mVar 3) mNil))) mNil))) (mCall0 (F_law_exact 3) (mCons (mCall0 F_text_of (mCons (mVar 2) (mCons (mVar 9) mNil))) (mCons (mVar 3) mNil)))))))))))
theorem o_neB {a b : Bool} {P : D → Ip.Env → Prop} {ρ : Ip.Env} (w : P (.bl (!(a == b))) ρ) : wo (neD (.bl a) (.bl b)) ρ P := o_some (d := .bl (!(a == b))) (by
  cases a <;> cases b <;> rfl) w
theorem mul_nat {a b : Int} (hc : a.natAbs.log2 + b.natAbs.log2 < 1000000) : mulD (.int a) (.int b) = some (.int (a * b)) := by
  unfold mulD
  dsimp only
  unfold ifO
  rw [if_pos (.inr (.inr hc))]
theorem o_mulN {a b m n : Nat} {P : D → Ip.Env → Prop} {ρ : Ip.Env} (ha : a < 2 ^ m) (hb : b < 2 ^ n) (h0 : 0 < m) (h1 : 0 < n) (h : m + n ≤ 1000000) (w : P (.int (a * b : Nat)) ρ) : wo (mulD (.int (a : Nat)) (.int (b : Nat))) ρ P := by
  have hc : (a : Int).natAbs.log2 + (b : Int).natAbs.log2 < 1000000 := Nat.lt_of_lt_of_le (Nat.add_lt_add (PySem.Flt.log2_lt_of h0 ha) (PySem.Flt.log2_lt_of h1 hb)) h
  rw [mul_nat hc, ← Int.natCast_mul]
  exact w
theorem wr_small {sg t : List Nat} (k : Sgn sg) (h : ∀ c ∈ t, c ∈ sg) (hl : t.length ≤ 150) : wr sg t < 2 ^ 700 := by
  have a := wr_lt k.s1 h
  have b := pow9 (b := sg.length + 1) (n := t.length) (by have := k.s8; omega)
  have c : (2 : Nat) ^ (4 * t.length + 1) ≤ 2 ^ 700 := Nat.pow_le_pow_right (by omega) (by omega)
  omega
theorem pw_small {sg : List Nat} (k : Sgn sg) {n : Nat} (hl : n ≤ 150) : (sg.length + 1) ^ n < 2 ^ 700 := by
  have b := pow9 (b := sg.length + 1) (n := n) (by have := k.s8; omega)
  have c : (2 : Nat) ^ (4 * n + 1) ≤ 2 ^ 700 := Nat.pow_le_pow_right (by omega) (by omega)
  omega
theorem rest_ok {sg : List Nat} (k : Sgn sg) (ns : List Int) (hns : ns.length ≤ 63) {E : Ex → Ip.Env → Prop} {PS : Fl → Ip.Env → Prop} {B x3 x4 x5 x6 x7 x8 x9 x10 x11 x12 : Option D} (w : ∀ ρ, PS (.rt (.bl true)) ρ) :
    wpx E (restL [some (.lst (ns.map D.int)), B, some (.str (S sg)), x3, x4, x5, x6, x7, x8, x9, x10, x11, x12]) PS := by
  have s1 := k.s1
  have s8 := k.s8
  have hnl : (ns.map D.int).length ≤ 63 := by rw [List.length_map]; exact hns
  unfold restL
  rw [lE]
  and_intros
  refine f_eq (worth_of_ok k (t := []) (by simp)) ?_
  and_intros
  refine f_eq (width_of_ok k (t := []) (by simp)) ?_
  and_intros
  refine f_eq (exact_lst (k := 2) (ds := [.int 0, .int 1]) (by simp) ?_) ?_
  · intro d hd
    rcases List.mem_cons.1 hd with rfl | hd
    · exact exact_int
    · rw [List.mem_singleton.1 hd]; exact exact_int
  and_intros
  refine w_loop (fun i ρ => ∃ (jn : List Nat) (ts : List (List Nat)) (x6 x7 x8 x9 x10 x11 x12 : Option D), ρ = [some (.lst (ns.map D.int)), B, some (.str (S sg)), some (.str (S jn)), some (.lst (ts.map strD)), some (.lst (ts.map (wD sg))), x6, x7, x8, x9, x10, x11, x12] ∧ (∀ c ∈ jn, c ∈ sg) ∧ jn.length ≤ 120 ∧ (∀ t ∈ ts, ∀ c ∈ t, c ∈ sg) ∧ ts.length = i + 1) ?_ ?_ ?_
  · exact ⟨[], [[]], x6, x7, x8, x9, x10, x11, x12, rfl, by simp, by simp, by simp, rfl⟩
  · rintro i d ρ hd ⟨jn, ts, x6, x7, x8, x9, x10, x11, x12, rfl, hj, hjl, hts, htl⟩
    obtain ⟨j, hj2, rfl⟩ := map_at hd
    have hi : i < 70 := by
      have := (List.getElem?_eq_some_iff.1 hj2).1
      rw [List.length_range] at this
      split at this <;> split at this <;> omega
    refine ⟨_, rfl, ?_⟩
    and_intros
    rw [show (1 + (j : Int)) = ((1 + j : Nat) : Int) by omega]
    refine f_use (pool_ok ns (1 + j)) ?_
    rintro d outs ⟨p, q, rfl⟩
    and_intros
    refine ⟨rfl, ?_⟩
    and_intros
    show wfx _ (F_law_string [pool p q, .str (S sg), .int 24]) _
    refine f_use (string_ok p q sg 24 s1 (by omega) (by omega) (by omega)) ?_
    rintro d outs ⟨t, p, q, rfl, rfl, tl, ht⟩
    and_intros
    refine f_eq (worth_of_ok k ht) ?_
    and_intros
    refine f_eq (width_of_ok k ht) ?_
    and_intros
    refine f_eq (law_worth_ok k ht (by omega)) ?_
    and_intros
    rw [show (((sg.length : Nat) : Int) + 1) = ((sg.length + 1 : Nat) : Int) by omega]
    with_reducible refine f_eq (power_ok (b := sg.length + 1) (n := t.length) (by omega) (by omega)) ?_
    and_intros
    with_reducible refine f_eq (exact_lst (k := 2) (ds := [.int (wr sg t : Nat), .int ((sg.length + 1) ^ t.length : Nat)]) (by simp) ?_) ?_
    · intro d hd
      rcases List.mem_cons.1 hd with rfl | hd
      · exact exact_int
      · rw [List.mem_singleton.1 hd]; exact exact_int
    and_intros
    with_reducible refine f_eq (text_of_ok k (by rw [figs_wr s1 ht]; omega)) ?_
    rw [txD_wr s1 ht]
    and_intros
    with_reducible refine f_eq (exact_str (k := 2) (t_sg k ht)) ?_
    and_intros
    have hl1 : (ts.map strD).length ≤ 100 := by rw [List.length_map]; omega
    have hl2 : (ts.map (wD sg)).length ≤ 100 := by rw [List.length_map]; omega
    by_cases h120 : jn.length + t.length ≤ 120
    · rw [decide_eq_true (show ((jn.length : Nat) : Int) + ((t.length : Nat) : Int) ≤ 120 by omega)]
      and_intros
      with_reducible refine f_eq (worth_of_ok k hj) ?_
      have hjt : ∀ c ∈ jn ++ t, c ∈ sg := fun c hc => (List.mem_append.1 hc).elim (hj c) (ht c)
      and_intros
      with_reducible refine o_mulN (m := 700) (n := 700) (wr_small k hj (by omega)) (pw_small k (by omega)) (by omega) (by omega) (by omega) ?_
      and_intros
      rw [show (((wr sg jn * (sg.length + 1) ^ t.length : Nat) : Int) + ((wr sg t : Nat) : Int)) = ((wr sg (jn ++ t) : Nat) : Int) by rw [wr_app]; push_cast; rfl]
      refine o_catS (by omega) ?_
      and_intros
      with_reducible refine f_eq (worth_of_ok k hjt) ?_
      and_intros
      with_reducible refine f_eq (exact_int (k := 2)) ?_
      and_intros
      refine o_catS (by omega) ?_
      and_intros
      with_reducible refine f_eq (width_of_ok k hjt) ?_
      and_intros
      with_reducible refine f_eq (width_of_ok k hj) ?_
      and_intros
      with_reducible refine o_mulN (m := 700) (n := 700) (pw_small k (by omega)) (pw_small k (by omega)) (by omega) (by omega) (by omega) ?_
      rw [List.length_append, Nat.pow_add]
      and_intros
      with_reducible refine f_eq (exact_int (k := 2)) ?_
      and_intros
      refine o_catS (by omega) ?_
      and_intros
      have done : ∀ (p q : Int) (x12 x11 : Option D), ∃ (jn2 : List Nat) (ts2 : List (List Nat)) (x6 x7 x8 x9 x10 y11 y12 : Option D), [some (.lst (ns.map D.int)), B, some (.str (S sg)), some (.str (S (jn ++ t))), some (.lst ((ts ++ [t]).map strD)), some (.lst ((ts ++ [t]).map (wD sg))), some (.int ((1 + j : Nat) : Int)), some (pool p q), some (.str (S t)), some (.int (wr sg t : Nat)), some (.int ((sg.length + 1) ^ t.length : Nat)), x11, x12] = [some (.lst (ns.map D.int)), B, some (.str (S sg)), some (.str (S jn2)), some (.lst (ts2.map strD)), some (.lst (ts2.map (wD sg))), x6, x7, x8, x9, x10, y11, y12] ∧ (∀ c ∈ jn2, c ∈ sg) ∧ jn2.length ≤ 120 ∧ (∀ t ∈ ts2, ∀ c ∈ t, c ∈ sg) ∧ ts2.length = i + 1 + 1 := fun p q x12 x11 => ⟨jn ++ t, ts ++ [t], _, _, _, _, _, x11, x12, rfl, hjt, by rw [List.length_append]; exact h120, fun u hu => (List.mem_append.1 hu).elim (hts u) fun hu => by rw [List.mem_singleton.1 hu]; exact ht, by simp [htl]⟩
      with_reducible refine w_all (fun x => [some (.lst (ns.map D.int)), B, some (.str (S sg)), some (.str (S (jn ++ t))), some (.lst (ts.map strD)), some (.lst (ts.map (wD sg))), some (.int ((1 + j : Nat) : Int)), some (pool p q), some (.str (S t)), some (.int (wr sg t : Nat)), some (.int ((sg.length + 1) ^ t.length : Nat)), some (.int (wr sg (jn ++ t) : Nat)), x]) x12 (by with_unfolding_all rfl) ?_ ?_
      · intro d x hd
        obtain ⟨m, hm, rfl⟩ := List.mem_map.1 hd
        have hm : m < ts.length := by simpa using hm
        have hu := List.getElem?_eq_getElem hm
        have hmm := hts _ (List.getElem_mem hm)
        generalize ts[m] = u at hu hmm
        refine ⟨_, rfl, ?_⟩
        and_intros
        refine o_ixN (d := wD sg u) (by rw [List.getElem?_map, hu]; rfl) ?_
        unfold wD
        and_intros
        refine o_ixN (d := strD u) (by rw [List.getElem?_map, hu]; rfl) ?_
        unfold strD
        and_intros
        refine o_eqS (t_sg k hmm) (t_sg k ht) ?_
        refine o_neB ?_
        have e : decide (((wr sg u : Nat) : Int) = ((wr sg t : Nat) : Int)) = decide (u = t) := decide_eq_decide.2 ⟨fun h => wr_inj s1 hmm ht (by omega), fun h => by rw [h]⟩
        rw [e, show (!(decide (u = t) == decide (u = t))) = false by cases decide (u = t) <;> rfl]
        and_intros
        exact ⟨_, rfl⟩
      · intro x12
        and_intros
        refine x_app (by omega) ?_
        and_intros
        refine x_app (by omega) ?_
        and_intros
        show wfx _ (F_law_refuses [pool p q, .str (S sg), .str (S t)]) _
        with_reducible refine f_use (law_refuses_ok k ht (by omega) p q) ?_
        intro d outs hd
        with_reducible obtain ⟨rfl, p, q, rfl⟩ := hd
        have e1 : ts.map strD ++ [D.str (S t)] = (ts ++ [t]).map strD := by rw [List.map_append]; rfl
        have e2 : ts.map (wD sg) ++ [D.int ((wr sg t : Nat) : Int)] = (ts ++ [t]).map (wD sg) := by rw [List.map_append]; rfl
        rw [e1, e2]
        and_intros
        by_cases h40 : ((1 + j : Nat) : Int) < 40
        · rw [decide_eq_true h40]
          and_intros
          show wfx _ (F_law_numbers_hold [pool p q, .str (S sg)]) _
          with_reducible refine f_use (numbers_hold_ok k p q) ?_
          intro d outs hd
          with_reducible obtain ⟨rfl, p, q, rfl⟩ := hd
          and_intros
          exact done p q x12 _
        · rw [decide_eq_false h40]
          and_intros
          exact done p q x12 _
    · rw [decide_eq_false (show ¬ ((jn.length : Nat) : Int) + ((t.length : Nat) : Int) ≤ 120 by omega)]
      and_intros
      have done : ∀ (p q : Int) (x12 x11 : Option D), ∃ (jn2 : List Nat) (ts2 : List (List Nat)) (x6 x7 x8 x9 x10 y11 y12 : Option D), [some (.lst (ns.map D.int)), B, some (.str (S sg)), some (.str (S (jn))), some (.lst ((ts ++ [t]).map strD)), some (.lst ((ts ++ [t]).map (wD sg))), some (.int ((1 + j : Nat) : Int)), some (pool p q), some (.str (S t)), some (.int (wr sg t : Nat)), some (.int ((sg.length + 1) ^ t.length : Nat)), x11, x12] = [some (.lst (ns.map D.int)), B, some (.str (S sg)), some (.str (S jn2)), some (.lst (ts2.map strD)), some (.lst (ts2.map (wD sg))), x6, x7, x8, x9, x10, y11, y12] ∧ (∀ c ∈ jn2, c ∈ sg) ∧ jn2.length ≤ 120 ∧ (∀ t ∈ ts2, ∀ c ∈ t, c ∈ sg) ∧ ts2.length = i + 1 + 1 := fun p q x12 x11 => ⟨jn, ts ++ [t], _, _, _, _, _, x11, x12, rfl, hj, hjl, fun u hu => (List.mem_append.1 hu).elim (hts u) fun hu => by rw [List.mem_singleton.1 hu]; exact ht, by simp [htl]⟩
      with_reducible refine w_all (fun x => [some (.lst (ns.map D.int)), B, some (.str (S sg)), some (.str (S (jn))), some (.lst (ts.map strD)), some (.lst (ts.map (wD sg))), some (.int ((1 + j : Nat) : Int)), some (pool p q), some (.str (S t)), some (.int (wr sg t : Nat)), some (.int ((sg.length + 1) ^ t.length : Nat)), x11, x]) x12 (by with_unfolding_all rfl) ?_ ?_
      · intro d x hd
        obtain ⟨m, hm, rfl⟩ := List.mem_map.1 hd
        have hm : m < ts.length := by simpa using hm
        have hu := List.getElem?_eq_getElem hm
        have hmm := hts _ (List.getElem_mem hm)
        generalize ts[m] = u at hu hmm
        refine ⟨_, rfl, ?_⟩
        and_intros
        refine o_ixN (d := wD sg u) (by rw [List.getElem?_map, hu]; rfl) ?_
        unfold wD
        and_intros
        refine o_ixN (d := strD u) (by rw [List.getElem?_map, hu]; rfl) ?_
        unfold strD
        and_intros
        refine o_eqS (t_sg k hmm) (t_sg k ht) ?_
        refine o_neB ?_
        have e : decide (((wr sg u : Nat) : Int) = ((wr sg t : Nat) : Int)) = decide (u = t) := decide_eq_decide.2 ⟨fun h => wr_inj s1 hmm ht (by omega), fun h => by rw [h]⟩
        rw [e, show (!(decide (u = t) == decide (u = t))) = false by cases decide (u = t) <;> rfl]
        and_intros
        exact ⟨_, rfl⟩
      · intro x12
        and_intros
        refine x_app (by omega) ?_
        and_intros
        refine x_app (by omega) ?_
        and_intros
        show wfx _ (F_law_refuses [pool p q, .str (S sg), .str (S t)]) _
        with_reducible refine f_use (law_refuses_ok k ht (by omega) p q) ?_
        intro d outs hd
        with_reducible obtain ⟨rfl, p, q, rfl⟩ := hd
        have e1 : ts.map strD ++ [D.str (S t)] = (ts ++ [t]).map strD := by rw [List.map_append]; rfl
        have e2 : ts.map (wD sg) ++ [D.int ((wr sg t : Nat) : Int)] = (ts ++ [t]).map (wD sg) := by rw [List.map_append]; rfl
        rw [e1, e2]
        and_intros
        by_cases h40 : ((1 + j : Nat) : Int) < 40
        · rw [decide_eq_true h40]
          and_intros
          show wfx _ (F_law_numbers_hold [pool p q, .str (S sg)]) _
          with_reducible refine f_use (numbers_hold_ok k p q) ?_
          intro d outs hd
          with_reducible obtain ⟨rfl, p, q, rfl⟩ := hd
          and_intros
          exact done p q x12 _
        · rw [decide_eq_false h40]
          and_intros
          exact done p q x12 _
  · rintro ρ ⟨jn, ts, x6, x7, x8, x9, x10, x11, x12, rfl, hj, hjl, hts, htl⟩
    and_intros
    with_reducible refine f_eq (worth_of_ok k hj) ?_
    and_intros
    with_reducible refine f_eq (law_worth_ok k hj (by omega)) ?_
    and_intros
    with_reducible refine f_eq (exact_int (k := 2)) ?_
    and_intros
    with_reducible refine f_eq (text_of_ok k (by rw [figs_wr s1 hj]; omega)) ?_
    rw [txD_wr s1 hj]
    and_intros
    with_reducible refine f_eq (exact_str (k := 2) (t_sg k hj)) ?_
    exact w _
end Wk31
set_option maxHeartbeats 4000000
namespace Wk31
open PySem L2 Ip
local macro_rules | `(tactic| and_intros) => `(tactic| repeat (first | (with_reducible first | refine w_c ?_ | refine w_nil ?_ | refine w_nx ?_ | refine w_yes ?_ | refine w_pair ?_ | refine w_pairO ?_ | refine w_pairR ?_ | refine w_m2 ?_ | refine w_un ?_ | refine w_cons ?_ | refine w_own ?_ | refine w_io ?_ | refine w_arg ?_ | refine w_argI ?_ | refine w_seqI ?_ | refine w_tup ?_ | refine w_lst ?_ | refine w_and ?_ | refine w_or ?_ | refine w_notV ?_ | refine w_ite ?_ | refine w_test ?_ | refine w_not ?_ | refine w_tand ?_ | refine w_tor ?_ | refine w_chain ?_ | refine w_call0 ?_ | refine w_call1 ?_ | refine w_lstM ?_ | refine w_strM ?_ | refine w_slice ?_ | refine w_oN ?_ | refine w_oS ?_ | refine w_seq ?_ | refine w_if ?_ | refine w_ret ?_ | refine w_drop ?_ | refine w_set ?_ | refine w_setO ?_ | refine w_asg ?_ | refine w_gIx ?_ | refine w_for ?_ | refine w_fn ?_ | refine w_cutL ?_ | refine w_enumS ?_ | refine w_fld1 ?_ | refine w_fldS ?_ | refine w_make ?_ | refine w_meth ?_ | refine w_raise ?_ | refine w_try ?_ | refine w_tryC ?_ | refine w_joinRev ?_ | refine w_while ?_ | refine t_nx ?_ | refine t_ct ?_ | refine t_bk ?_ | refine t_rt ?_ | refine q_nx ?_ | refine q_rt ?_ | refine q_bk ?_ | refine q_ct ?_ | refine e_rt ?_ | refine e_nx ?_ | refine i_t ?_ | refine i_f ?_ | refine i_nt ?_ | refine i_nf ?_ | refine o_add ?_ | refine o_sub ?_ | refine o_lt ?_ | refine o_le ?_ | refine o_gt ?_ | refine o_ge ?_ | refine o_int ?_ | refine o_abs ?_ | refine o_lenL ?_ | refine o_lenT ?_ | refine o_inS ?_ | refine o_notInS ?_ | refine o_listL ?_ | refine o_listT ?_ | refine o_tupL ?_ | refine o_tupT ?_ | refine o_eqI ?_ | refine o_neI ?_ | refine o_isN ?_ | refine o_notN ?_ | refine o_rev ?_ | refine o_max ?_ | refine o_min ?_ | refine o_lenCh ?_ | refine o_notInCh ?_ | refine o_listCh ?_ | refine o_inI ?_ | refine x_bl ?_ | refine x_int ?_ | refine x_str ?_ | refine x_sqL ?_ | refine x_sqT ?_ | refine x_sqS ?_ | refine x_isL ?_ | refine x_out ?_ | refine x_some ?_ | refine x_objL ?_ | refine x_objI ?_ | refine x_objD ?_ | refine x_cls ?_ | refine fl_nx ?_ | refine fl_ct ?_ | refine x_r1 (by with_unfolding_all omega) ?_ | refine x_r2 (by with_unfolding_all omega) ?_ | refine w_var (by with_unfolding_all exact rfl) ?_ | refine x_env (by with_unfolding_all exact rfl) ?_ | refine x_lst (by with_unfolding_all exact rfl) ?_ | refine x_slot (by with_unfolding_all exact of_decide_eq_true rfl) ?_ | refine x_nm (by with_unfolding_all exact of_decide_eq_true rfl) ?_ | refine o_ixL (by with_unfolding_all exact rfl) ?_ | refine o_ixT (by with_unfolding_all exact rfl) ?_ | refine o_isiB (b := true) (by with_unfolding_all exact rfl) ?_ | refine o_isiB (b := false) (by with_unfolding_all exact rfl) ?_ | refine o_lenS' (by first | with_unfolding_all omega | assumption) ?_ | refine x_tp (by with_unfolding_all exact rfl) ?_ | refine x_fld (by with_unfolding_all exact rfl) (by with_unfolding_all exact rfl) ?_ | refine x_meth (by with_unfolding_all exact rfl) ⟨(by with_unfolding_all exact rfl), (by with_unfolding_all exact rfl)⟩ ?_ | refine o_pow (by with_unfolding_all decide) ?_ | refine o_mulR (by with_unfolding_all decide) ?_ | refine o_mulL (by with_unfolding_all decide) ?_ | refine o_mulL (by with_unfolding_all omega) ?_ | refine o_mod (by first | assumption | with_unfolding_all decide) ?_ | refine o_div (by first | assumption | with_unfolding_all decide) (by first | assumption | with_unfolding_all decide) ?_)))
open N31 hiding lt
theorem law_ok (ns : List Int) (hn : ns.length ≤ 63) : wf (F_law [.lst (ns.map D.int)]) fun d outs => d = .bl true := by
  unfold F_law
  with_reducible refine w_fn ?_
  unfold m_law
  generalize hR : (mSeq (mSet 3 (mC (.str ""))) (mSeq (mSetO 4 (mLst (mCons (mC (.str "")) mNil))) (mSeq (mSetO 5 (mLst (mCons (mCall0 F_worth_of (mCons (mVar 2) (mCons (mC (.str "")) mNil))) mNil))) (mSeq (mIfS (mNot (mTest (mCall0 (F_law_exact 3) (mCons (mLst (mCons (m2 ixD (mPairO 5 (mC (.int 0)))) (mCons (mCall0 F_width_of (mCons (mVar 2) (mCons (mC (.str "")) mNil))) mNil))) (mCons (mLst (mCons (mC (.int 0)) (mCons (mC (.int 1)) mNil))) mNil))))) (mRet (mC (.bl false))) mNx) (mSeq (mFor (mArgI asR2 (mCons (mC (.int 1)) (mCons (mArg oMax (mCons (mC (.int 4)) (mCons (mArg oMin (mCons (mArg oLen (mCons (mVar 0) mNil)) (mCons (mC (.int 63)) mNil))) mNil))) mNil))) (gNm 6) (mSeq (mSetO 7 (mCall0 F_law_pool (mCons (mVar 0) (mCons (mVar 6) mNil)))) (mSeq (mSet 8 (mCall1 F_law_string 0 7 (mIo (mCons (mVar 2) (mCons (mC (.int 24)) mNil))))) (mSeq (mSet 9 (mCall0 F_worth_of (mCons (mVar 2) (mCons (mVar 8) mNil)))) (mSeq (mSet 10 (mCall0 F_width_of (mCons (mVar 2) (mCons (mVar 8) mNil)))) (mSeq (mIfS (mNot (mTest (mCall0 (F_law_exact 3) (mCons (mLst (mCons (mVar 9) (mCons (mVar 10) mNil))) (mCons (mLst (mCons (mCall0 F_law_worth (mCons (mVar 2) (mCons (mVar 8) mNil))) (mCons (mCall0 F_law_power (mCons (m2 addD (mPair (mArg oLen (mCons (mVar 2) mNil)) (mC (.int 1)))) (mCons (mArg oLen (mCons (mVar 8) mNil)) mNil))) mNil))) mNil))))) (mRet (mC (.bl false))) mNx) (mSeq (mIfS (mNot (mTest (mCall0 (F_law_exact 3) (mCons (mCall0 F_text_of (mCons (mVar 2) (mCons (mVar 9) mNil))) (mCons (mVar 8) mNil))))) (mRet (mC (.bl false))) mNx) (mSeq (mIfS (mTest (m2 leD (mPair (m2 addD (mPair (mArg oLen (mCons (mVar 3) mNil)) (mArg oLen (mCons (mVar 8) mNil)))) (mC (.int 120))))) (mSeq (mSet 11 (m2 addD (mPair (m2 mulD (mPair (mCall0 F_worth_of (mCons (mVar 2) (mCons (mVar 3) mNil))) (mVar 10))) (mVar 9)))) (mSeq (mIfS (mNot (mTest (mCall0 (F_law_exact 3) (mCons (mCall0 F_worth_of (mCons (mVar 2) (mCons (m2 addD (mPair (mVar 3) (mVar 8))) mNil))) (mCons (mVar 11) mNil))))) (mRet (mC (.bl false))) mNx) (mSeq (mIfS (mNot (mTest (mCall0 (F_law_exact 3) (mCons (mCall0 F_width_of (mCons (mVar 2) (mCons (m2 addD (mPair (mVar 3) (mVar 8))) mNil))) (mCons (m2 mulD (mPair (mCall0 F_width_of (mCons (mVar 2) (mCons (mVar 3) mNil))) (mVar 10))) mNil))))) (mRet (mC (.bl false))) mNx) (mSet 3 (m2 addD (mPair (mVar 3) (mVar 8))))))) mNx) (mSeq (mFor (mArgI asR1 (mCons (mArg oLen (mOwn 4 mNil)) mNil)) (gNm 12) (mIfS (mTest (m2 neD (mPair (m2 eqD (mPair (m2 ixD (mPairO 5 (mVar 12))) (mVar 9))) (m2 eqD (mPair (m2 ixD (mPairO 4 (mVar 12))) (mVar 8)))))) (mRet (mC (.bl false))) mNx)) (mSeq (mDrop (mLstM 4 stAppend (mCons (mVar 8) mNil))) (mSeq (mDrop (mLstM 5 stAppend (mCons (mVar 9) mNil))) (mSeq (mIfS (mNot (mTest (mCall1 F_law_refuses 0 7 (mIo (mCons (mVar 2) (mCons (mVar 8) mNil)))))) (mRet (mC (.bl false))) mNx) (mIfS (mAnd (mTest (m2 ltD (mPair (mVar 6) (mC (.int 40))))) (mNot (mTest (mCall1 F_law_numbers_hold 0 7 (mIo (mCons (mVar 2) mNil)))))) (mRet (mC (.bl false))) mNx))))))))))))) (mSeq (mSet 9 (mCall0 F_worth_of (mCons (mVar 2) (mCons (mVar 3) mNil)))) (mRet (mAndV (mCall0 (F_law_exact 3) (mCons (mVar 9) (mCons (mCall0 F_law_worth (mCons (mVar 2) (mCons (mVar 3) mNil))) mNil))) (mCall0 (F_law_exact 3) (mCons (mCall0 F_text_of (mCons (mVar 2) (mCons (mVar 9) mNil))) (mCons (mVar 3) mNil))))))))))) = RL
  and_intros
  refine f_use (pool_ok ns 0) ?_
  rintro d outs ⟨p, q, rfl⟩
  and_intros
  refine ⟨rfl, ?_⟩
  and_intros
  refine u_draw (by omega) (by omega) ?_
  intro r p q r0 r1
  and_intros
  refine u_signs r0 r1 ?_
  intro sg p q s1 s8 sn sa
  have k : Sgn sg := ⟨s1, s8, sn, sa⟩
  and_intros
  refine u_draw (by omega) (by omega) ?_
  intro r p q r0 r1
  and_intros
  by_cases h7 : r = 7
  · rw [decide_eq_true h7]
    and_intros
    show wfx _ (F_law_long_holds [pool p q, .str (S sg)]) _
    with_reducible refine f_use (long_ok k p q) ?_
    intro d outs hd
    with_reducible obtain ⟨rfl, p, q, rfl⟩ := hd
    and_intros
    rw [← hR]
    exact rest_ok k ns hn fun ρ => rfl
  · rw [decide_eq_false h7]
    and_intros
    rw [← hR]
    exact rest_ok k ns hn fun ρ => rfl
theorem law_holds (ns : List Int) (hn : ns.length ≤ 63) : ∃ outs, F_law [.lst (ns.map D.int)] = .ok (.bl true) outs := by
  obtain ⟨d, outs, e, h⟩ := wf_of (law_ok ns hn)
  subst h
  exact ⟨outs, e⟩
end Wk31
open PySem PySem.W PySem.Calls PyProof.Rows
set_option maxHeartbeats 0 in
theorem PySem.Challenge.cw_madeanew_k31_worths_and_widths_holds : PySem.Challenge.rw_madeanew_k31_worths_and_widths.Holds := by
  w_on; o_law
  refine HandSHeadRun.head_any (r := OpenLaw.row PySem.Challenge.rw_madeanew_k31_worths_and_widths) (q := view (OpenLaw.row PySem.Challenge.rw_madeanew_k31_worths_and_widths).prog [37]) (H := @Wk31.hk) (ob := @Wk31.ob) (M := 4000) (loose := @Wk31.loose) (d := HandSHeadRun.topDef (OpenLaw.row PySem.Challenge.rw_madeanew_k31_worths_and_widths).prog 37) (kwd := []) @Wk31.ob_eq
    (by kernel_rfl) (fun s => by kernel_rfl) @Wk31.run (by kernel_rfl) (by kernel_rfl) (by kernel_rfl) (by rfl) (by first | assumption | decide +kernel) (by decide +kernel) ⟨rfl, rfl, rfl, rfl, rfl, by decide +kernel⟩ ?hw ?hc
  case hw => w_witness2
  case hc =>
    refine Ip.law_end (lw := PySem.Challenge.rw_madeanew_k31_worths_and_widths) (nn := 63) (kk := 6) (xx := "_law_script") rfl (by decide) (by kernel_rfl) ⟨rfl, by decide, by decide⟩ ?F
    intro w mg fa h Y G hmg0
    obtain ⟨K, KX, c⟩ := Y
    have hmg : mg ("law" : PySem.Str) = some (.ref fa) := by
      have e : (HandSHeadRun.topDef (OpenLaw.row PySem.Challenge.rw_madeanew_k31_worths_and_widths).prog 37).name = ("law" : PySem.Str) := by kernel_rfl
      rw [← e]
      exact hmg0
    obtain ⟨fd, hb, hF⟩ := Wk31.facts (P := PySem.Challenge.rw_madeanew_k31_worths_and_widths.prog) (w := w) KX G hmg c
    exact ⟨K, fd, _, KX, hb, fun H a ns hl _ hS => Ip.law_sp (Wk31.law_holds ns hl) hS, fun base _ _ => hF base⟩
